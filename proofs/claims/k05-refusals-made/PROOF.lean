import PyProof.Rows.All
import Wide.All
import OpenK.AllK
import Wide.FinOn
import PyProof.P3Statements
import PyProof.ReprReads
import HandS.ForMost
import HandS.Head4
import HandS.HeadEnd
import HandS.HeadWalk
import HandS.EndTab
import HandS.HeadHook4
import HandS.ExcInit
import HandS.ExcIs
import HandS.ExcField
import KE.KExcIs
import PySem.Challenge.RW_kinferry_k05_refusals_made
import HandS.Lambda
import HandS.ExcValue
import HandS.TupAny
import HandS.Style
import HandS.Flow
import HandS.Dict
import HandS.Deep
import HandS.SortOrd
import HandS.SortRule
import HandS.SortInts
import HandS.More
import KE.KSortTupAny
import HandS.IsInst
import HandS.Conv
import HandS.RaiseMore
import HandS.Defaults
import PyProof.Draws
import PyProof.EnumMake
import HandS.Zip
import HandS.Walk
import HandS.Iter
import HandS.Text
import HandS.Nested
import PyProof.ExcBaseAll.LookupError
import HandS.TryMany
import HandS.ExcCtx
import HandS.DictComp
import HandS.SetKeys
import HandS.ListItems
import HandS.Set
import HandS.Strs
import HandS.DictTup
import KE.GoesZip
import KE.KDictZip
import KE.KItemsList
import KE.GoesEnumKw
import KE.GoesMore
import HandS.Small
import KE.KUnpackStar
import KE.KUnpack
import HandS.Zip0
import HandS.Hot
import HandS.HotCalls
import PyProof.EnumIter
import PyProof.ReprBulk
section
set_option Elab.async false
set_option linter.all false
/-! PC: a small deterministic interpreter for the Python of these laws. Values that never change are trees (D); lists, dicts,
instances stand in a store by number. -/
namespace PC
open PySem

abbrev Ky := Sum Int Str

/-! ### the syntax -/
/-- built-in functions -/
inductive Bi where
  | len | list | tuple | dict | int | str | repr | bool | sorted | sum | all | any | max | min | set | abs | ord | chr
  deriving DecidableEq, Repr, Inhabited
/-- what isinstance asks -/
inductive Ty where
  | int | str | bool | list | tuple | dict | cls (c : Nat)
  deriving DecidableEq, Repr, Inhabited
/-- places that are stored to -/
inductive Tg where
  | name (i : Nat) | tup (ts : List Nat) | star (ts : List Nat) (r : Nat) | nest (i : Nat) (ts : List Nat)
  deriving DecidableEq, Repr, Inhabited
/-- what a loop walks over -/
inductive Src where
  | val | range | enum | zip | items | vals
  deriving DecidableEq, Repr, Inhabited

mutual
inductive CE where
  | non | bl (b : Bool) | int (i : Int) | str (x : Str)
  | var (i : Nat) | glo (g : Nat) | fnv (f : Nat)
  | bin (op : Operator) (a b : CE) | neg (a : CE) | notE (a : CE)
  | andE (a b : CE) | orE (a b : CE) | ifE (c a b : CE)
  | cmp (op : CmpOp) (a b : CE) | chain (op op2 : CmpOp) (a b c : CE)
  | call (f : Nat) (as : CEs) (ix : List Nat) | make (c : Nat) (as : CEs) | mkx (c : Nat) (f : Str) (a : CE) | mkn (c : Nat) (a : CE) | meth (o : CE) (m : Str) (as : CEs)
  | bi (b : Bi) (as : CEs) | isi (a : CE) (ts : List Ty) | isx (a : CE) (cs : List Nat) | app (j : Nat) (as : CEs)
  | attr (o : CE) (f : Str) | idx (a i : CE) | slc (a : CE) (lo hi : CO) | rev (a : CE)
  | tupE (es : CEs) | lstE (es : CEs) | dicE (ks vs : CEs)
  | lc (elt : CE) (tg : Tg) (src : Src) (it : CEs) (ifs : CEs) (own : List Nat)
  | dc (k v : CE) (tg : Tg) (src : Src) (it : CEs) (ifs : CEs) (own : List Nat)
  | lzip (b : Bool) (x y : CE) | alt (a b : CE) | lcK (elt : CE) (tg : Tg) (j : Nat) (ifs : CEs) (own : List Nat) | dcK (k v : CE) (tg : Tg) (j : Nat) (ifs : CEs) (own : List Nat) | imth (o : CE) (m : Str) (as : CEs) | dget (o k f : CE) | dsetd (o k f : CE) | dupd (o x : CE) | ditm (o : CE) | srtSet (o : CE) | srtItm (o : CE) | callV (f : Nat) (as : CEs) (j : Nat) | callL (f : Nat) (as : CEs) (l : Nat) (caps : List Nat) | col (src : Src) (es : CEs)
inductive CEs where
  | nil | cons (e : CE) (es : CEs)
inductive CO where
  | no | so (e : CE)
end

/-- values: numbers, texts, tuples; things that change stand in the store; a lambda bears what it caught -/
inductive D where
  | non | bl (b : Bool) | int (i : Int) | str (x : Str)
  | tup (xs : List D) | frl (xs : List D) | ref (n : Nat) | fn (n : Nat) | lam (l : Nat) (cs : List D) | exc (c : Nat) (f : Str) (x : D) | exn (c : Nat)
  deriving Inhabited

/-- what stands at a number of the store; fro: a list that nobody may change -/
inductive Ob where
  | lst (xs : List D) | fro (xs : List D) | dk (kvs : List (Ky × D)) | frk (kvs : List (Ky × D)) | dt (kvs : List (List Ky × D)) | ins (c : Nat) (fs : List (Str × D))
  deriving Inhabited

abbrev Sto := List Ob
abbrev En := List (Option D)
abbrev Re (α : Type) := Option (α × Sto)


mutual
inductive CS where
  | set (t : Tg) (e : CE) | setStar (is : List Nat) (r : Nat) (e : CE) | setLst (is : List Nat) (e : CE) | setI (o i e : CE) | setA (o : CE) (f : Str) (e : CE)
  | aug (i : Nat) (op : Operator) (e : CE) | augA (o : CE) (f : Str) (op : Operator) (e : CE)
  | ifS (c : CE) (a b : CSs) | whl (c : CE) (b : CSs) | for_ (tg : Tg) (src : Src) (it : CEs) (b : CSs)
  | ret (e : CE) | retN | exp (e : CE) | pass | brk | cnt
inductive CSs where
  | nil | cons (s : CS) (r : CSs)
end

structure Fn where
  ps : Nat
  slots : Nat
  body : CSs
structure Cls where
  ini : Option Nat
  meths : List (Str × Nat)
/-- a lambda: its parameters, its slots, its body -/
structure Lm where
  ps : Nat
  slots : Nat
  body : CE
structure Prog where
  fns : List Fn
  lms : List Lm := []
  cls : List Cls
  glos : List D

/-! ### what the words do to values -/
/-- the most that a list, a text may hold -/
def line : Nat := 16777216
/-- a store with one more -/
def new (o : Ob) (S : Sto) : Re D := some (.ref S.length, S ++ [o])
def bnd {α β : Type} (m : Re α) (k : α → Sto → Re β) : Re β := match m with
  | some (a, S) => k a S
  | none => none
/-- an answer that leaves the store -/
def giv (d : Option D) (S : Sto) : Re D := d.map fun d => (d, S)

def optMap {α β : Type} (f : α → Option β) : List α → Option (List β)
  | [] => some []
  | x :: xs => match f x, optMap f xs with
    | some y, some ys => some (y :: ys)
    | _, _ => none
def kyP : Ky → PyData
  | .inl i => .int i
  | .inr x => .str x
def kyD : Ky → D
  | .inl i => .int i
  | .inr x => .str x
/-- what data a value is: lists, tuples, dicts down to a depth -/
def rdP : Nat → Sto → D → Option PyData
  | 0, _, _ => none
  | k + 1, S, d => match d with
    | .non => some .none
    | .bl b => some (.bool b)
    | .int i => some (.int i)
    | .str x => some (.str x)
    | .tup xs => (optMap (rdP k S) xs).map .tuple
    | .ref n => match S[n]? with
      | some (.lst xs) => (optMap (rdP k S) xs).map .list
      | some (.fro xs) => (optMap (rdP k S) xs).map .list
      | some (.dk kvs) => (optMap (rdP k S) (kvs.map (·.2))).map fun vs => .dict ((kvs.map fun kv => kyP kv.1).zip vs)
      | _ => none
    | .frl xs => (optMap (rdP k S) xs).map .list
    | .fn _ => none
    | .lam _ _ => none
    | .exc _ _ _ => none
    | .exn _ => none
def truD (d : D) (S : Sto) : Option Bool := match d with
  | .non => some false
  | .bl b => some b
  | .int i => some (i != 0)
  | .str x => if x.length ≤ line then some ((x.length : Int) != 0) else none
  | .tup xs => some (!xs.isEmpty)
  | .frl xs => some (!xs.isEmpty)
  | .ref n => match S[n]? with
    | some (.lst xs) => some (!xs.isEmpty)
    | some (.fro xs) => some (!xs.isEmpty)
    | some (.dk kvs) => some (!kvs.isEmpty)
    | _ => none
  | _ => none
def lstD (d : D) (S : Sto) : Option (List D) := match d with
  | .frl xs => some xs
  | .ref n => match S[n]? with
    | some (.lst xs) => some xs
    | some (.fro xs) => some xs
    | _ => none
  | _ => none
/-- a list's items or a tuple's -/
def seqD (d : D) (S : Sto) : Option (List D) := match d with
  | .tup xs => some xs
  | d => lstD d S
def mulOk (i j : Int) : Bool := (decide (-(2 ^ 64) < i) && decide (i < 2 ^ 64)) || (decide (-(2 ^ 64) < j) && decide (j < 2 ^ 64))
def powOk (i j : Int) : Bool := decide (0 ≤ j) && decide (j ≤ 1000000) && decide (i.natAbs < 2 ^ 64)
def binD (op : Operator) (a b : D) (S : Sto) : Re D := match op, a, b with
  | .Add, .int i, .int j => some (.int (i + j), S)
  | .Add, .str x, .str y => if x.length + y.length ≤ line then some (.str (x ++ y), S) else none
  | .Add, .tup xs, .tup ys => if xs.length + ys.length ≤ line then some (.tup (xs ++ ys), S) else none
  | .Add, .ref n, .ref m => match S[n]?, S[m]? with
    | some (.lst xs), some (.lst ys) => if xs.length + ys.length ≤ line then new (.lst (xs ++ ys)) S else none
    | _, _ => none
  | .Sub, .int i, .int j => some (.int (i - j), S)
  | .Mult, .int i, .int j => if mulOk i j then some (.int (i * j), S) else none
  | .Mult, .str x, .int j => if 0 ≤ j ∧ j ≤ 1000 ∧ x.length * j.toNat ≤ line then some (.str ⟨((List.replicate j.toNat x.cps.toList).flatten).toArray⟩, S) else none
  | .Mult, .ref n, .int j => match S[n]? with
    | some (.lst xs) => if 0 ≤ j ∧ j ≤ 1000 ∧ xs.length * j.toNat ≤ line then new (.lst ((List.replicate j.toNat xs).flatten)) S else none
    | _ => none
  | .FloorDiv, .int i, .int j => if 0 < j ∧ j < 1073741824 then some (.int (i / j), S) else none
  | .Mod, .int i, .int j => if 0 < j then some (.int (i % j), S) else none
  | .Pow, .int i, .int j => if powOk i j then some (.int (i ^ j.toNat), S) else none
  | .LShift, .int i, .int j => if powOk i j then some (.int (i * 2 ^ j.toNat), S) else none
  | _, _, _ => none
def keyOf : D → Option Ky
  | .int i => some (.inl i)
  | .str x => some (.inr x)
  | _ => none
def keysOf : D → Option (List Ky)
  | .tup xs => optMap keyOf xs
  | _ => none
def valK {κ α : Type} [DecidableEq κ] (k : κ) (kvs : List (κ × α)) : Option α := (kvs.find? fun kv => decide (kv.1 = k)).map (·.2)
def putK {κ α : Type} [DecidableEq κ] (k : κ) (v : α) (kvs : List (κ × α)) : List (κ × α) :=
  if kvs.any (fun kv => decide (kv.1 = k)) = true then kvs.map fun kv => if kv.1 = k then (kv.1, v) else kv else kvs ++ [(k, v)]
/-- an instance's field -/
def fldD (f : Str) (v : D) : List (Str × D) → List (Str × D)
  | [] => [(f, v)]
  | (g, u) :: r => if g = f then (g, v) :: r else (g, u) :: fldD f v r
mutual
def noD : PyData → Bool
  | .none => true
  | .bool _ => true
  | .int _ => true
  | .str _ => true
  | .list xs => noDs xs
  | .tuple xs => noDs xs
  | .dict _ => false
def noDs : List PyData → Bool
  | [] => true
  | x :: xs => noD x && noDs xs
end
/-- data without dicts -/
def rdQ (S : Sto) (d : D) : Option PyData := match rdP 60 S d with
  | some p => if noD p then some p else none
  | none => none
/-- a list beside an empty one -/
def eqNil (a b : D) (S : Sto) : Option Bool := match lstD a S, lstD b S with
  | some xs, some ys => if (xs.isEmpty || ys.isEmpty) = true then some (xs.isEmpty && ys.isEmpty) else none
  | _, _ => none
def eqD (a b : D) (S : Sto) : Option Bool := match rdQ S a, rdQ S b with
  | some p, some q => some (p.eqv q)
  | _, _ => eqNil a b S
/-- is a value one of some -/
def inD (a : D) (xs : List D) (S : Sto) : Option Bool := match rdQ S a, optMap (rdQ S) xs with
  | some p, some qs => some (qs.any fun q => q.eqv p)
  | _, _ => none
def cmpD (op : CmpOp) (a b : D) (S : Sto) : Option Bool := match op with
  | .Eq => eqD a b S
  | .NotEq => (eqD a b S).map (!·)
  | .Lt => match a, b with
    | .int i, .int j => some (decide (i < j))
    | .str x, .str y => some (decide (x.cps.toList < y.cps.toList))
    | _, _ => none
  | .LtE => match a, b with
    | .int i, .int j => some (decide (i ≤ j))
    | .str x, .str y => some (!decide (y.cps.toList < x.cps.toList))
    | _, _ => none
  | .Gt => match a, b with
    | .int i, .int j => some (decide (j < i))
    | _, _ => none
  | .GtE => match a, b with
    | .int i, .int j => some (decide (j ≤ i))
    | _, _ => none
  | .Is => match b with
    | .non => some (match a with | .non => true | _ => false)
    | _ => none
  | .IsNot => match b with
    | .non => some (match a with | .non => false | _ => true)
    | _ => none
  | .In => isIn a b S
  | .NotIn => (isIn a b S).map (!·)
where
  isIn (a b : D) (S : Sto) : Option Bool := match b with
    | .str x => match a with
      | .str y => match y.cps.toList with
        | [c] => some (decide (c ∈ x.cps.toList))
        | _ => none
      | _ => none
    | .tup xs => inD a xs S
    | .ref n => match S[n]? with
      | some (.lst xs) => inD a xs S
      | some (.fro xs) => inD a xs S
      | some (.dk kvs) => (match keyOf a with
        | some k => some (valK k kvs).isSome
        | none => if kvs.isEmpty = true then (keysOf a).map fun _ => false else none)
      | some (.dt kvs) => (keysOf a).map fun k => (valK k kvs).isSome
      | _ => none
    | _ => none
def idxD (a i : D) (S : Sto) : Option D := match a, i with
  | .tup xs, .int j => L2.atI xs j
  | .frl xs, .int j => L2.atI xs j
  | .str x, .int j => if x.length ≤ line then (L2.atI x.cps.toList j).map fun c => .str ⟨#[c]⟩ else none
  | .ref n, i => match S[n]? with
    | some (.lst xs) => match i with
      | .int j => L2.atI xs j
      | _ => none
    | some (.fro xs) => match i with
      | .int j => L2.atI xs j
      | _ => none
    | some (.dk kvs) => (match keyOf i with
      | some k => valK k kvs
      | none => none)
    | some (.frk kvs) => (match keyOf i with
      | some k => valK k kvs
      | none => none)
    | some (.dt kvs) => (match keysOf i with
      | some k => valK k kvs
      | none => none)
    | _ => none
  | _, _ => none
def cutL {α : Type} (xs : List α) (lo hi : Option Int) : List α := (xs.drop (HT.sIx xs.length 0 lo)).take (HT.sIx xs.length xs.length hi - HT.sIx xs.length 0 lo)
def slcD (a : D) (lo hi : Option Int) (S : Sto) : Re D := match a with
  | .tup xs => some (.tup (cutL xs lo hi), S)
  | .frl xs => new (.lst (cutL xs lo hi)) S
  | .str x => if x.length ≤ line then some (.str (L2.cutS x lo hi), S) else none
  | .ref n => match S[n]? with
    | some (.lst xs) => new (.lst (cutL xs lo hi)) S
    | some (.fro xs) => new (.lst (cutL xs lo hi)) S
    | _ => none
  | _ => none
def intD : D → Option Int
  | .int i => some i
  | _ => none
def boolD : D → Option Bool
  | .bl b => some b
  | _ => none
def strD : D → Option Str
  | .str x => some x
  | _ => none
def pairD : D → Option (Ky × D)
  | .tup [k, v] => (keyOf k).map fun k => (k, v)
  | _ => none
def tyD (t : Ty) (d : D) (S : Sto) : Option Bool := match d with
  | .non => some false
  | .bl _ => some (t == .bool || t == .int)
  | .int _ => some (t == .int)
  | .str _ => some (t == .str)
  | .tup _ => some (t == .tuple)
  | .frl _ => none
  | .ref n => match S[n]? with
    | some (.lst _) => some (t == .list)
    | some (.fro _) => some (t == .list)
    | some (.dk _) => some (t == .dict)
    | some (.ins c _) => (match t with
      | .cls k => some (k == c)
      | _ => none)
    | _ => none
  | _ => none
/-- isinstance with some kinds -/
def isiD (d : D) (S : Sto) : List Ty → Option Bool
  | [] => some false
  | t :: ts => match tyD t d S with
    | some true => some true
    | some false => isiD d S ts
    | none => none
/-- what repr is asked of: no dicts, or the empty one alone -/
def repOk (p : PyData) : Bool := noD p || (match p with | .dict [] => true | _ => false)
def reprD (d : D) (S : Sto) : Option Str := match rdP 60 S d with
  | some p => if repOk p = true ∧ p.showable = true ∧ (PyData.shown p).length ≤ line then some (PyData.shown p) else none
  | none => none
def lenD (d : D) (S : Sto) : Option Int := match d with
  | .tup xs => some xs.length
  | .frl xs => some xs.length
  | .str x => if x.length ≤ line then some x.length else none
  | .ref n => match S[n]? with
    | some (.lst xs) => some xs.length
    | some (.fro xs) => some xs.length
    | some (.dk kvs) => some kvs.length
    | _ => none
  | _ => none
def tupD (d : D) (S : Sto) : Option D := match d with
  | .tup xs => some (.tup xs)
  | .ref n => match S[n]? with
    | some (.lst xs) => some (.tup xs)
    | some (.fro xs) => some (.tup xs)
    | _ => none
  | _ => none
def dicD (d : D) (S : Sto) : Re D := match (lstD d S).bind (optMap pairD) with
  | some kvs => new (.dk (kvs.foldl (fun m kv => putK kv.1 kv.2 m) [])) S
  | none => match d with
    | .ref n => match S[n]? with
      | some (.dk kvs) => new (.dk kvs) S
      | _ => none
    | _ => none
/-! sorted -/
def ltS (x y : Str) : Bool := decide (x.cps.toList < y.cps.toList)
def ltI (x y : Int) : Bool := decide (x < y)
def insL {α : Type} (lt : α → α → Bool) (x : α) : List α → List α
  | [] => [x]
  | y :: r => if lt x y = true then x :: y :: r else y :: insL lt x r
def srtL {α : Type} (lt : α → α → Bool) : List α → List α
  | [] => []
  | x :: r => insL lt x (srtL lt r)
/-- a tuple's first part, a text -/
def fstS : D → Option Str
  | .tup (.str x :: _) => some x
  | _ => none
def keyT (d : D) : Str := (fstS d).getD ⟨#[]⟩
def kyS : Ky → Option Str
  | .inr x => some x
  | _ => none
/-- numbers, texts (fewer than 64), tuples whose first parts are unlike texts -/
def srtD (xs : List D) : Option (List D) := match optMap intD xs with
  | some ns => some ((srtL ltI ns).map .int)
  | none => match optMap strD xs with
    | some ts => if ts.length < 64 then some ((srtL ltS ts).map .str) else none
    | none => match optMap fstS xs with
      | some ks => if ks.Nodup ∧ xs.length ≤ line then some (srtL (fun a b => ltS (keyT a) (keyT b)) xs) else none
      | none => none
def srtO (d : D) (S : Sto) : Option (List D) := match d with
  | .ref n => match S[n]? with
    | some (.lst xs) => srtD xs
    | some (.fro xs) => srtD xs
    | some (.dk kvs) => (match optMap kyS (kvs.map (·.1)) with
      | some ts => if ts.length < 64 then some ((srtL ltS ts).map .str) else none
      | none => none)
    | _ => none
  | _ => none
def bi1 (b : Bi) (d : D) (S : Sto) : Re D := match b with
  | .len => giv ((lenD d S).map .int) S
  | .tuple => giv (tupD d S) S
  | .dict => dicD d S
  | .int => giv (match d with
    | .int i => some (.int i)
    | .bl b => some (.int (if b then 1 else 0))
    | _ => none) S
  | .str => giv (match d with
    | .int i => if i.natAbs.log2 < 1920 then some (.str (toString i)) else none
    | _ => none) S
  | .repr => giv ((reprD d S).map .str) S
  | .all => giv (((lstD d S).bind (optMap boolD)).map fun bs => .bl (bs.all id)) S
  | .any => giv (((lstD d S).bind (optMap boolD)).map fun bs => .bl (bs.any id)) S
  | .sum => giv (((lstD d S).bind (optMap intD)).map fun ns => .int ns.sum) S
  | .abs => giv ((intD d).map fun i => .int (if i < 0 then -i else i)) S
  | .sorted => match srtO d S with
    | some ys => new (.lst ys) S
    | none => none
  | _ => none
def bi2 (b : Bi) (d e : D) (S : Sto) : Re D := match b, intD d, intD e with
  | .max, some i, some j => some (.int (if j > i then j else i), S)
  | .min, some i, some j => some (.int (if j < i then j else i), S)
  | _, _, _ => none
def biD (b : Bi) (as : List D) (S : Sto) : Re D := match as with
  | [d] => bi1 b d S
  | [d, e] => bi2 b d e S
  | _ => none
/-- the methods of built-in kinds -/
def mAppend (o a : D) (S : Sto) : Re D := match o with
  | .ref n => match S[n]? with
    | some (.lst xs) => if xs.length < line then some (.non, S.set n (.lst (xs ++ [a]))) else none
    | _ => none
  | _ => none
def mExtend (o a : D) (S : Sto) : Re D := match o, a with
  | .ref n, .ref k => match S[n]?, S[k]? with
    | some (.lst xs), some (.lst ys) => if xs.length + ys.length ≤ line then some (.non, S.set n (.lst (xs ++ ys))) else none
    | _, _ => none
  | _, _ => none
def mPopAt (o a : D) (S : Sto) : Re D := match o, a with
  | .ref n, .int i => match S[n]? with
    | some (.lst xs) => if -(2 ^ 62) ≤ i ∧ i < 2 ^ 62 then (match L2.ixN xs.length i with
      | some k => (match xs[k]? with
        | some y => some (y, S.set n (.lst (xs.eraseIdx k)))
        | none => none)
      | none => none) else none
    | _ => none
  | _, _ => none
def mPop (o : D) (S : Sto) : Re D := match o with
  | .ref n => match S[n]? with
    | some (.lst xs) => (match xs[xs.length - 1]? with
      | some y => some (y, S.set n (.lst xs.dropLast))
      | none => none)
    | _ => none
  | _ => none
def mUpper (o : D) (S : Sto) : Re D := match o with
  | .str x => if x.length ≤ 5592405 then some (.str (Txt.upper x), S) else none
  | _ => none
def mJoin (o a : D) (S : Sto) : Re D := match o with
  | .str x => match (seqD a S).bind (optMap strD) with
    | some ys => if (ys.map (·.length)).sum + ys.length * x.length ≤ line then some (.str (Txt.join x ys), S) else none
    | none => none
  | _ => none
/-- the first place of one that is like a -/
def mIndex (o a : D) (S : Sto) : Re D := match (match o with | .ref n => lstD (.ref n) S | _ => none) with
  | some xs => (match rdQ S a, optMap (rdQ S) xs with
    | some p, some qs => (match qs.findIdx? (fun q => q.eqv p) with
      | some j => some (.int j, S)
      | none => none)
    | _, _ => none)
  | none => none
def metD (o : D) (m : Str) (as : List D) (S : Sto) : Re D := match as with
  | [] => if m = "pop" then mPop o S else if m = "upper" then mUpper o S else none
  | [a] => if m = "append" then mAppend o a S else if m = "extend" then mExtend o a S else if m = "pop" then mPopAt o a S else if m = "join" then mJoin o a S else if m = "index" then mIndex o a S else none
  | _ => none
/-- the turns' things, and what stands still meanwhile -/
def itV (d : D) (S : Sto) : Option (List D × List Nat) := match d with
  | .tup xs => some (xs, [])
  | .frl xs => some (xs, [])
  | .str x => some (x.cps.toList.map fun c => .str ⟨#[c]⟩, [])
  | .ref n => match S[n]? with
    | some (.lst xs) => some (xs, [n])
    | some (.fro xs) => some (xs, [n])
    | _ => none
  | _ => none
def itR1 (a : D) : Option (List D × List Nat) := match a with
  | .int j => if -(2 ^ 62) ≤ j ∧ j < 2 ^ 62 then some ((List.range j.toNat).map fun (k : Nat) => .int (0 + k), []) else none
  | _ => none
def itR2 (a b : D) : Option (List D × List Nat) := match a, b with
  | .int i, .int j => if -(2 ^ 62) ≤ i ∧ i < 2 ^ 62 ∧ -(2 ^ 62) ≤ j ∧ j < 2 ^ 62 then some ((List.range (j - i).toNat).map fun (k : Nat) => .int (i + k), []) else none
  | _, _ => none
def lstR (d : D) (S : Sto) : Option (Nat × List D) := match d with
  | .ref n => match S[n]? with
    | some (.lst xs) => some (n, xs)
    | some (.fro xs) => some (n, xs)
    | _ => none
  | _ => none
def itD (s : Src) (as : List D) (S : Sto) : Option (List D × List Nat) := match s with
  | .val => (match as with
    | [d] => itV d S
    | _ => none)
  | .range => (match as with
    | [a] => itR1 a
    | [a, b] => itR2 a b
    | _ => none)
  | .enum => (match as with
    | [.tup xs] => some (xs.zipIdx.map fun (x, k) => .tup [.int k, x], [])
    | [d] => (lstR d S).map fun (n, xs) => (xs.zipIdx.map fun (x, k) => .tup [.int k, x], [n])
    | _ => none)
  | .zip => (match as with
    | [a, b] => match lstR a S, lstR b S with
      | some (n, xs), some (m, ys) => some (List.zipWith (fun x y => .tup [x, y]) xs ys, [n, m])
      | _, _ => none
    | _ => none)
  | _ => none
def froz (S : Sto) (n : Nat) : Sto := match S[n]? with
  | some (.lst xs) => S.set n (.fro xs)
  | _ => S
/-- the lists that stood still may be changed again, as they could ahead -/
def thaw (S0 S : Sto) (n : Nat) : Sto := match S0[n]? with
  | some (.lst xs) => S.set n (.lst xs)
  | _ => S
def putT (t : Tg) (d : D) (e : En) : Option En := match t with
  | .name i => some (e.set i (some d))
  | .tup ts => match d with
    | .tup xs => if xs.length = ts.length then some ((ts.zip xs).foldl (fun e (i, x) => e.set i (some x)) e) else none
    | _ => none
  | .star _ _ => none
  | .nest i ts => match d with
    | .tup [x, .tup xs] => if xs.length = ts.length then some ((ts.zip xs).foldl (fun e (i, x) => e.set i (some x)) (e.set i (some x))) else none
    | _ => none
def wipe (e : En) : List Nat → En
  | [] => e
  | v :: vs => (wipe e vs).set v none
/-- what a caller knows of the defs: at its own level, at one less (an instance's making) -/
structure Cal where
  fn : Nat → List D → Sto → Re D
  ini : Nat → List D → Sto → Re D
  lam : Nat → List D → List D → Sto → Re D
  P : Prog
def callIx (ix : List Nat) (as : List D) : Option (List D) := if ix = [] then some as else optMap (fun i => as[i]?) ix
/-- items one by one, what is made of each, if it is kept -/
def lcLoop (f : D → Sto → Option (Option D × Sto)) : List D → Sto → Option (List D × Sto)
  | [], S => some ([], S)
  | x :: xs, S => match f x S with
    | some (o, S1) => match lcLoop f xs S1 with
      | some (ys, S2) => some (o.toList ++ ys, S2)
      | none => none
    | none => none

def litD : D → CE
  | .non => .non
  | .bl b => .bl b
  | .int i => .int i
  | .str x => .str x
  | _ => .non
/-- o.m(..): of an instance a def, else a built-in method -/
def mthD (C : Cal) (o : D) (m : Str) (as : List D) (S : Sto) : Re D := match o with
  | .ref n => match S[n]? with
    | some (.ins c _) => match C.P.cls[c]? with
      | some K => match K.meths.lookup m with
        | some f => C.fn f (o :: as) S
        | none => none
      | none => none
    | _ => metD o m as S
  | o => metD o m as S
def isLam : D → Bool
  | .lam _ _ => true
  | _ => false
/-- a captured name's value -/
def capD (e : En) (i : Nat) : Option D := match e[i]? with
  | some (some d) => if isLam d then none else some d
  | _ => none
/-- an instance's own method -/
def mthOf (P : Prog) (x : D) (m : Str) (S : Sto) : Option Nat := match x with
  | .ref n => match S[n]? with
    | some (.ins c fs) => (match fs.lookup m with
      | some _ => none
      | none => (match P.cls[c]? with
        | some K => K.meths.lookup m
        | none => none))
    | _ => none
  | _ => none
/-- has it methods -/
def metK (o : D) (S : Sto) : Bool := match o with
  | .ref n => match S[n]? with
    | some (.lst _) => true
    | some (.fro _) => true
    | _ => false
  | .str _ => true
  | _ => false
def atrD (o : D) (f : Str) (S : Sto) : Option D := match o with
  | .ref n => match S[n]? with
    | some (.ins _ fs) => fs.lookup f
    | _ => none
  | .exc _ g x => if f = g then some x else none
  | _ => none
/-- over the items of a source: its lists stand still meanwhile -/
def lcRun (src : Src) (as : List D) (S : Sto) (turn : D → Sto → Option (Option D × Sto)) : Option (List D × Sto) :=
  match itD src as S with
  | some (xs, st) => match lcLoop turn xs (st.foldl froz S) with
    | some (ys, S2) => some (ys, st.foldl (thaw S) S2)
    | none => none
  | none => none
/-- the turn of a comprehension -/
def lcTn (t : En → Sto → Re Bool) (f : En → Sto → Re D) (tg : Tg) (e : En) (x : D) (S : Sto) : Option (Option D × Sto) := match putT tg x e with
  | some e1 => match t e1 S with
    | some (true, S1) => match f e1 S1 with
      | some (d, S2) => some (some d, S2)
      | none => none
    | some (false, S1) => some (none, S1)
    | none => none
  | none => none
/-- is it a dict whose keys are numbers, texts -/
def isDk (x : D) (S : Sto) : Bool := match x with
  | .ref n => match S[n]? with
    | some (.dk _) => true
    | _ => false
  | _ => false
/-- d.get(k, z) -/
def getD2 (x k z : D) (S : Sto) : Option D := match x with
  | .ref n => match S[n]? with
    | some (.dk kvs) => (keyOf k).map fun k => (valK k kvs).getD z
    | _ => none
  | _ => none
/-- d.setdefault(k, z) -/
def setdD (x k z : D) (S : Sto) : Re D := match x with
  | .ref n => match S[n]? with
    | some (.dk kvs) => (match keyOf k with
      | some k => if kvs.length < line then (match valK k kvs with
        | some v => some (v, S)
        | none => some (z, S.set n (.dk (putK k z kvs)))) else none
      | none => none)
    | _ => none
  | _ => none
/-- d.update(e) -/
def updD (x y : D) (S : Sto) : Re D := match x, y with
  | .ref n, .ref m => (match S[n]?, S[m]? with
    | some (.dk kvs), some (.dk more) => if n ≠ m ∧ kvs.length + more.length ≤ line then some (.non, S.set n (.dk (more.foldl (fun m kv => putK kv.1 kv.2 m) kvs))) else none
    | _, _ => none)
  | _, _ => none
/-- list(d.items()) -/
def itmD (x : D) (S : Sto) : Re D := match x with
  | .ref n => match S[n]? with
    | some (.dk kvs) => new (.lst (kvs.map fun kv => .tup [kyD kv.1, kv.2])) S
    | _ => none
  | _ => none
/-- the numbers, each once -/
def onceI : List Int → List Int
  | [] => []
  | i :: r => if i ∈ r then onceI r else i :: onceI r
/-- sorted(set(xs)) of fewer than 64 numbers -/
def srtSetD (x : D) (S : Sto) : Re D := match (lstD x S).bind (optMap intD) with
  | some ns => if ns.length < 64 then new (.lst ((srtL ltI (onceI ns)).map .int)) S else none
  | none => none
/-- sorted(d.items()) of a dict with texts as keys -/
def srtItmD (x : D) (S : Sto) : Re D := match x with
  | .ref n => match S[n]? with
    | some (.dk kvs) => (match optMap kyS (kvs.map (·.1)) with
      | some ts => if ts.Nodup ∧ kvs.length ≤ line then new (.lst (srtL (fun a b => ltS (keyT a) (keyT b)) (kvs.map fun kv => .tup [kyD kv.1, kv.2]))) S else none
      | none => none)
    | _ => none
  | _ => none
/-- a dict comprehension's key and value, as a pair -/
def dcF (f g : En → Sto → Re D) (e : En) (S : Sto) : Re D := bnd (f e S) fun x S => bnd (g e S) fun y S => match keyOf x with
  | some _ => some (.tup [x, y], S)
  | none => none
mutual
def evE (C : Cal) : CE → En → Sto → Re D
  | .non, _, S => some (.non, S)
  | .bl b, _, S => some (.bl b, S)
  | .int i, _, S => some (.int i, S)
  | .str x, _, S => some (.str x, S)
  | .var i, e, S => match e[i]? with
    | some (some d) => if isLam d then none else some (d, S)
    | _ => none
  | .glo g, _, S => giv C.P.glos[g]? S
  | .fnv f, _, S => some (.fn f, S)
  | .bin op a b, e, S => bnd (evE C a e S) fun x S => bnd (evE C b e S) fun y S => binD op x y S
  | .neg a, e, S => bnd (evE C a e S) fun x S => match x with
    | .int i => some (.int (-i), S)
    | _ => none
  | .notE a, e, S => bnd (evE C a e S) fun x S => giv ((truD x S).map fun b => .bl (!b)) S
  | .andE a b, e, S => bnd (evE C a e S) fun x S => match truD x S with
    | some true => evE C b e S
    | some false => some (x, S)
    | none => none
  | .orE a b, e, S => bnd (evE C a e S) fun x S => match truD x S with
    | some true => some (x, S)
    | some false => evE C b e S
    | none => none
  | .ifE c a b, e, S => bnd (evE C c e S) fun x S => match truD x S with
    | some true => evE C a e S
    | some false => evE C b e S
    | none => none
  | .cmp op a b, e, S => bnd (evE C a e S) fun x S => bnd (evE C b e S) fun y S => giv ((cmpD op x y S).map .bl) S
  | .chain op op2 a b c, e, S => bnd (evE C a e S) fun x S => bnd (evE C b e S) fun y S => match cmpD op x y S with
    | some true => bnd (evE C c e S) fun z S => giv ((cmpD op2 y z S).map .bl) S
    | some false => some (.bl false, S)
    | none => none
  | .call f as ix, e, S => bnd (evEs C as e S) fun xs S => match callIx ix xs with
    | some ys => C.fn f ys S
    | none => none
  | .mkx c f x, e, S => bnd (evE C x e S) fun d S => some (.exc c f d, S)
  | .mkn c x, e, S => bnd (evE C x e S) fun _ S => some (.exn c, S)
  | .make c as, e, S => bnd (evEs C as e S) fun xs S => match C.P.cls[c]? with
    | some ⟨some f, _⟩ => bnd (C.ini f (.ref S.length :: xs) (S ++ [.ins c []])) fun d S1 => (match d with
      | .non => some (.ref S.length, S1)
      | _ => none)
    | _ => none
  | .dget o k f, e, S => bnd (evE C o e S) fun x S => if isDk x S = true then bnd (evE C k e S) fun y S => bnd (evE C f e S) fun z S => giv (getD2 x y z S) S else none
  | .dsetd o k f, e, S => bnd (evE C o e S) fun x S => if isDk x S = true then bnd (evE C k e S) fun y S => bnd (evE C f e S) fun z S => setdD x y z S else none
  | .dupd o a, e, S => bnd (evE C o e S) fun x S => if isDk x S = true then bnd (evE C a e S) fun y S => updD x y S else none
  | .ditm o, e, S => bnd (evE C o e S) fun x S => itmD x S
  | .srtSet o, e, S => bnd (evE C o e S) fun x S => srtSetD x S
  | .srtItm o, e, S => bnd (evE C o e S) fun x S => srtItmD x S
  | .imth o m as, e, S => bnd (evE C o e S) fun x S => match mthOf C.P x m S with
    | some f => bnd (evEs C as e S) fun xs S => C.fn f (x :: xs) S
    | none => none
  | .meth o m as, e, S => bnd (evE C o e S) fun x S => if metK x S = true then bnd (evEs C as e S) fun xs S => metD x m xs S else none
  | .bi b as, e, S => bnd (evEs C as e S) fun xs S => biD b xs S
  | .isi a ts, e, S => bnd (evE C a e S) fun x S => giv ((isiD x S ts).map .bl) S
  | .isx a cs, e, S => bnd (evE C a e S) fun x S => match x with
    | .exc c _ _ => some (.bl (decide (c ∈ cs)), S)
    | .exn c => some (.bl (decide (c ∈ cs)), S)
    | _ => none
  | .app j as, e, S => match e[j]? with
    | some (some (.lam l cs)) => bnd (evEs C as e S) fun xs S => C.lam l xs cs S
    | _ => none
  | .callV f as j, e, S => match e[j]? with
    | some (some (.lam l cs)) => bnd (evEs C as e S) fun xs S => C.fn f (xs ++ [.lam l cs]) S
    | _ => none
  | .callL f as l caps, e, S => bnd (evEs C as e S) fun xs S => match optMap (capD e) caps with
    | some cs => C.fn f (xs ++ [.lam l cs]) S
    | none => none
  | .attr o f, e, S => bnd (evE C o e S) fun x S => giv (atrD x f S) S
  | .idx a i, e, S => bnd (evE C a e S) fun x S => bnd (evE C i e S) fun y S => giv (idxD x y S) S
  | .slc a lo hi, e, S => bnd (evE C a e S) fun x S => bnd (evO C lo e S) fun l S => bnd (evO C hi e S) fun h S => slcD x l h S
  | .rev a, e, S => bnd (evE C a e S) fun x S => match lstD x S with
    | some xs => new (.lst xs.reverse) S
    | none => none
  | .tupE es, e, S => bnd (evEs C es e S) fun xs S => if xs.length ≤ line then some (.tup xs, S) else none
  | .lstE es, e, S => bnd (evEs C es e S) fun xs S => if xs.length ≤ line then new (.lst xs) S else none
  | .dicE ks vs, e, S => bnd (evEs C ks e S) fun xs S => bnd (evEs C vs e S) fun ys S => match optMap keyOf xs with
    | some kk => if xs.length = ys.length ∧ xs.length ≤ 15 then new (.dk ((kk.zip ys).foldl (fun m kv => putK kv.1 kv.2 m) [])) S else none
    | none => none
  | .lc elt tg src it ifs own, e, S => bnd (evEs C it e S) fun as S =>
    match lcRun src as S (lcTn (tstEs C ifs) (evE C elt) tg (wipe e own)) with
    | some (ys, S2) => if ys.length < line then new (.lst ys) S2 else none
    | none => none
  | .dc k v tg src it ifs own, e, S => bnd (evEs C it e S) fun as S =>
    match lcRun src as S (lcTn (tstEs C ifs) (dcF (evE C k) (evE C v)) tg (wipe e own)) with
    | some (ys, S2) => (match optMap pairD ys with
      | some kvs => if ys.length < line then new (.dk (kvs.foldl (fun m kv => putK kv.1 kv.2 m) [])) S2 else none
      | none => none)
    | none => none
  | .lzip _ x y, e, S => bnd (evE C x e S) fun u S => bnd (evE C y e S) fun v S => (match seqD u S, seqD v S with
    | some xs, some ys => if xs.length = ys.length then new (.lst (List.zipWith (fun x y => .tup [x, y]) xs ys)) S else none
    | _, _ => none)
  | .alt a b, e, S => match evE C a e S with
    | some r => some r
    | none => evE C b e S
  | .lcK elt tg j ifs own, e, S => match e[j]? with
    | some (some (.ref n)) => (match S[n]? with
      | some (.dk kvs) => (match lcLoop (lcTn (tstEs C ifs) (evE C elt) tg (wipe e own)) (kvs.map fun kv => kyD kv.1) (S.set n (.frk kvs)) with
        | some (ys, S2) => if ys.length < line then new (.lst ys) (S2.set n (.dk kvs)) else none
        | none => none)
      | _ => none)
    | _ => none
  | .dcK k v tg j ifs own, e, S => match e[j]? with
    | some (some (.ref n)) => (match S[n]? with
      | some (.dk kvs) => (match lcLoop (lcTn (tstEs C ifs) (dcF (evE C k) (evE C v)) tg (wipe e own)) (kvs.map fun kv => kyD kv.1) (S.set n (.frk kvs)) with
        | some (ys, S2) => (match optMap pairD ys with
          | some ps => if ys.length < line then new (.dk (ps.foldl (fun m kv => putK kv.1 kv.2 m) [])) (S2.set n (.dk kvs)) else none
          | none => none)
        | none => none)
      | _ => none)
    | _ => none
  | .col src es, e, S => bnd (evEs C es e S) fun as S => match itD src as S with
    | some (xs, _) => if xs.length ≤ line then new (.lst xs) S else none
    | none => none
def evEs (C : Cal) : CEs → En → Sto → Re (List D)
  | .nil, _, S => some ([], S)
  | .cons a r, e, S => bnd (evE C a e S) fun x S => bnd (evEs C r e S) fun xs S => some (x :: xs, S)
def evO (C : Cal) : CO → En → Sto → Re (Option Int)
  | .no, _, S => some (none, S)
  | .so a, e, S => bnd (evE C a e S) fun x S => match x with
    | .int i => some (some i, S)
    | _ => none
def tstEs (C : Cal) : CEs → En → Sto → Re Bool
  | .nil, _, S => some (true, S)
  | .cons a r, e, S => bnd (evE C a e S) fun x S => match truD x S with
    | some true => tstEs C r e S
    | some false => some (false, S)
    | none => none
end

/-- how a statement ends -/
inductive Fl where
  | nx | bk | ct | rt (d : D)
  deriving Inhabited
abbrev Rs := Option (Fl × En × Sto)
def forLoop (f : D → En → Sto → Rs) : List D → En → Sto → Rs
  | [], e, S => some (.nx, e, S)
  | x :: xs, e, S => match f x e S with
    | some (.nx, e1, S1) => forLoop f xs e1 S1
    | some (.ct, e1, S1) => forLoop f xs e1 S1
    | some (.bk, e1, S1) => some (.nx, e1, S1)
    | some (.rt d, e1, S1) => some (.rt d, e1, S1)
    | none => none
def whlLoop (t : En → Sto → Re Bool) (f : En → Sto → Rs) : Nat → En → Sto → Rs
  | 0, _, _ => none
  | k + 1, e, S => match t e S with
    | some (true, S1) => match f e S1 with
      | some (.nx, e2, S2) => whlLoop t f k e2 S2
      | some (.ct, e2, S2) => whlLoop t f k e2 S2
      | some (.bk, e2, S2) => some (.nx, e2, S2)
      | some (.rt d, e2, S2) => some (.rt d, e2, S2)
      | none => none
    | some (false, S1) => some (.nx, e, S1)
    | none => none
/-- more turns than any while here has -/
def turns : Nat := 100000
def bnS {α : Type} (m : Re α) (k : α → Sto → Rs) : Rs := match m with
  | some (a, S) => k a S
  | none => none
def tstE (C : Cal) (c : CE) (e : En) (S : Sto) : Re Bool := match evE C c e S with
  | some (x, S1) => (truD x S1).map fun b => (b, S1)
  | none => none
/-- x += v, x -= v: of numbers, of texts -/
def augD (op : Operator) (a b : D) : Option D := match op, a, b with
  | .Add, .int i, .int j => some (.int (i + j))
  | .Add, .str x, .str y => if x.length + y.length ≤ line then some (.str (x ++ y)) else none
  | .Sub, .int i, .int j => some (.int (i - j))
  | _, _, _ => none
/-- an instance's class -/
def clsD (o : D) (S : Sto) : Option Nat := match o with
  | .ref n => match S[n]? with
    | some (.ins c _) => some c
    | _ => none
  | _ => none
/-- o.f += v, o.f -= v: of numbers -/
def augI (op : Operator) (a b : D) : Option D := match op, a, b with
  | .Add, .int i, .int j => some (.int (i + j))
  | .Sub, .int i, .int j => some (.int (i - j))
  | _, _, _ => none
/-- o[i] = v -/
def setD (o i v : D) (S : Sto) : Option Sto := match o with
  | .ref n => match S[n]? with
    | some (.lst xs) => match i with
      | .int j => (L2.ixN xs.length j).map fun k => S.set n (.lst (xs.set k v))
      | _ => none
    | some (.dk kvs) => match keyOf i with
      | some k => if kvs.length < line then some (S.set n (.dk (putK k v kvs))) else none
      | none => if kvs.isEmpty = true then (keysOf i).map fun k => S.set n (.dt [(k, v)]) else none
    | some (.dt kvs) => match keysOf i with
      | some k => if kvs.length < line then some (S.set n (.dt (putK k v kvs))) else none
      | none => none
    | _ => none
  | _ => none
/-- o.f = v -/
def satD (o : D) (f : Str) (v : D) (S : Sto) : Option Sto := match o with
  | .ref n => match S[n]? with
    | some (.ins c fs) => if fs.length < 1000 then some (S.set n (.ins c (fldD f v fs))) else none
    | _ => none
  | _ => none
/-- a turn of a for loop -/
def forB (f : En → Sto → Rs) (tg : Tg) (x : D) (e : En) (S : Sto) : Rs := match putT tg x e with
  | some e1 => f e1 S
  | none => none
mutual
def exS (C : Cal) : CS → En → Sto → Rs
  | .set t x, e, S => bnS (evE C x e S) fun d S => (putT t d e).map fun e => (.nx, e, S)
  | .setStar is r x, e, S => bnS (evE C x e S) fun d S => (match d with
    | .tup xs => if is.length ≤ xs.length ∧ xs.length ≤ line then some (.nx, ((is ++ [r]).zip (xs.take is.length ++ [.ref S.length])).foldl (fun e (i, x) => e.set i (some x)) e, S ++ [.lst (xs.drop is.length)]) else none
    | _ => none)
  | .setLst is x, e, S => bnS (evE C x e S) fun d S => (match lstD d S with
    | some xs => if xs.length = is.length then some (.nx, (is.zip xs).foldl (fun e (i, x) => e.set i (some x)) e, S) else none
    | none => none)
  | .setI o i x, e, S => bnS (evE C x e S) fun d S => bnS (evE C o e S) fun p S => bnS (evE C i e S) fun j S => (setD p j d S).map fun S => (.nx, e, S)
  | .setA o f x, e, S => bnS (evE C x e S) fun d S => bnS (evE C o e S) fun p S => (satD p f d S).map fun S => (.nx, e, S)
  | .aug i op x, e, S => match e[i]? with
    | some (some a) => bnS (evE C x e S) fun d S => match augD op a d with
      | some z => some (.nx, e.set i (some z), S)
      | none => none
    | _ => none
  | .augA o f op x, e, S => bnS (evE C o e S) fun p S => match atrD p f S with
    | some a => bnS (evE C x e S) fun d S2 => if clsD p S = clsD p S2 then (match augI op a d with
      | some z => (satD p f z S2).map fun S => (.nx, e, S)
      | none => none) else none
    | none => none
  | .ifS c a b, e, S => bnS (tstE C c e S) fun k S => match k with
    | true => exSs C a e S
    | false => exSs C b e S
  | .whl c b, e, S => whlLoop (tstE C c) (exSs C b) turns e S
  | .for_ tg src it b, e, S => bnS (evEs C it e S) fun as S => match itD src as S with
    | some (xs, st) => match forLoop (forB (exSs C b) tg) xs e (st.foldl froz S) with
      | some (fl, e2, S2) => some (fl, e2, st.foldl (thaw S) S2)
      | none => none
    | none => none
  | .ret x, e, S => bnS (evE C x e S) fun d S => some (.rt d, e, S)
  | .retN, e, S => some (.rt .non, e, S)
  | .exp x, e, S => bnS (evE C x e S) fun _ S => some (.nx, e, S)
  | .pass, e, S => some (.nx, e, S)
  | .brk, e, S => some (.bk, e, S)
  | .cnt, e, S => some (.ct, e, S)
def exSs (C : Cal) : CSs → En → Sto → Rs
  | .nil, e, S => some (.nx, e, S)
  | .cons s r, e, S => match exS C s e S with
    | some (.nx, e1, S1) => exSs C r e1 S1
    | x => x
end
/-- a call's end -/
def endD (r : Rs) : Re D := match r with
  | some (.nx, _, S) => some (.non, S)
  | some (.rt d, _, S) => some (d, S)
  | _ => none
def oneF (C : Cal) (f : Nat) (as : List D) (S : Sto) : Re D := match C.P.fns[f]? with
  | some F => if as.length = F.ps then endD (exSs C F.body (as.map some ++ List.replicate (F.slots - F.ps) none) S) else none
  | none => none
def oneL (C : Cal) (l : Nat) (as cs : List D) (S : Sto) : Re D := match C.P.lms[l]? with
  | some F => if as.length = F.ps then evE C F.body (as.map some ++ (cs.map some ++ List.replicate (F.slots - as.length - cs.length) none)) S else none
  | none => none
/-- what is known at so many levels of calls -/
def calL (P : Prog) : Nat → Cal
  | 0 => ⟨fun _ _ _ => none, fun _ _ _ => none, fun _ _ _ _ => none, P⟩
  | k + 1 => ⟨oneF (calL P k), (calL P k).fn, oneL (calL P k), P⟩
/-- the def f by so many levels of calls -/
abbrev runF (P : Prog) (L : Nat) : Nat → List D → Sto → Re D := (calL P L).fn
end PC
end
section
set_option Elab.async false
set_option linter.all false
/-! PC: from the model's syntax to PC's. -/
namespace PC
open PySem

/-- a def as its callers know it: its number, its parameters, the last ones' values where they are left out -/
structure FnI where
  id : Nat
  ps : List Str
  dfl : List (Str × D) := []
  /-- is the last parameter a lambda -/
  lp : Bool := false
  /-- has it keyword-only parameters -/
  kwo : Bool := false
/-- what the top's names are -/
structure Gam where
  fns : List (Str × FnI)
  cls : List (Str × Nat)
  con : List (Str × Nat)
  /-- the shapes of calls with names or with parameters left out: the def's number, how many by place, the names -/
  kws : List (Nat × Nat × List Str) := []
  /-- the names of attributes, of own methods -/
  att : List Str := []
  mth : List Str := []
  /-- variables that comprehensions walk over where they may be dicts -/
  kwk : List Str := []
  /-- the exceptions' classes that are made: number, field, parameter -/
  xcs : List (Str × Nat × Str × Str) := []
  /-- classes that isinstance asks exceptions for: the numbers of those under it -/
  xis : List (Str × List Nat) := []

def ixOf (N : List Str) (x : Str) : Option Nat := match N with
  | [] => none
  | y :: r => if y = x then some 0 else (ixOf r x).map (· + 1)
def visB (sc : Scope) (x : Str) : Bool := match sc.names.lookup x with
  | some .local => true
  | some .cell => true
  | some .free => true
  | _ => false
def gloB (sc : Scope) (x : Str) : Bool := match sc.names.lookup x with
  | some .globalImplicit => true
  | _ => false
def locB (sc : Scope) (x : Str) : Bool := match sc.names.lookup x with
  | some .local => true
  | some .cell => true
  | _ => false
/-- is it free to be a built-in's name -/
def freeB (Γ : Gam) (x : Str) : Bool := (Γ.fns.lookup x).isNone && (Γ.cls.lookup x).isNone && (Γ.con.lookup x).isNone
/-- the built-in functions by their names -/
def biOf : List (Str × Bi) := [("len", .len), ("tuple", .tuple), ("dict", .dict), ("int", .int), ("str", .str), ("repr", .repr), ("all", .all), ("any", .any), ("sum", .sum), ("max", .max), ("min", .min), ("abs", .abs), ("sorted", .sorted)]
def tyNm : List (Str × Ty) := [("int", .int), ("str", .str), ("bool", .bool), ("list", .list), ("tuple", .tuple), ("dict", .dict)]
def oMap {α β : Type} (f : α → Option β) : List α → Option (List β)
  | [] => some []
  | x :: xs => match f x, oMap f xs with
    | some y, some ys => some (y :: ys)
    | _, _ => none
def esOf : List CE → CEs
  | [] => .nil
  | e :: r => .cons e (esOf r)
def CEs.len : CEs → Nat
  | .nil => 0
  | .cons _ r => r.len + 1
def apEs : CEs → CEs → CEs
  | .nil, r => r
  | .cons e es, r => .cons e (apEs es r)
/-- a name that is stored to -/
def nmOf (N : List Str) (sc : Scope) (e : Expr) : Option Nat := match e with
  | .Name x _ => if locB sc x then ixOf N x else none
  | _ => none
def tgOf (N : List Str) (sc : Scope) (e : Expr) : Option Tg := match e with
  | .Name x p => (nmOf N sc (.Name x p)).map .name
  | .Tuple es _ _ => (oMap (nmOf N sc) es).map .tup
  | _ => none
/-- x, (a, b, ..): of a for alone -/
def nestOf (N : List Str) (sc : Scope) (e : Expr) : Option Tg := match e with
  | .Tuple [a, .Tuple bs _ _] _ _ => (match nmOf N sc a, oMap (nmOf N sc) bs with
    | some i, some is => some (.nest i is)
    | _, _ => none)
  | _ => none
def tgOf2 (N : List Str) (sc : Scope) (e : Expr) : Option Tg := match tgOf N sc e with
  | some t => some t
  | none => nestOf N sc e
def notStar : Expr → Bool
  | .Starred _ _ => false
  | _ => true
/-- with rules of its own where it is stored, walked, asked -/
def isLc : Expr → Bool
  | .ListComp _ _ _ _ => true
  | .SetComp _ _ _ _ => true
  | .DictComp _ _ _ _ _ => true
  | .Set _ _ _ => true
  | _ => false
def isCall : Expr → Bool
  | .Call _ _ _ _ => true
  | _ => false
/-- f(): super() has a rule of its own -/
def isCall0 : Expr → Bool
  | .Call (.Name _ _) [] [] _ => true
  | _ => false
def isTupX : Expr → Bool
  | .Tuple _ _ _ => true
  | _ => false
def isSlc : Expr → Bool
  | .Slice _ _ _ _ => true
  | _ => false
/-- what a loop walks over, its parts -/
def srcOf (Γ : Gam) (sc : Scope) (e : Expr) : Src × List Expr := match e with
  | .Call (.Name f p) as [] q =>
    if gloB sc f && freeB Γ f && decide (f = "range") && (as.length == 1 || as.length == 2) then (.range, as)
    else if gloB sc f && freeB Γ f && decide (f = "enumerate") && as.length == 1 then (.enum, as)
    else if gloB sc f && freeB Γ f && decide (f = "zip") && as.length == 2 then (.zip, as)
    else (.val, [.Call (.Name f p) as [] q])
  | e => (.val, [e])
def ownOf (N : List Str) (scope : Scope) : List (Str × Nat) := scope.names.filterMap fun (x, k) => if k == .local || k == .cell then (ixOf N x).map fun i => (x, i) else none
/-- enumerate, zip: into a tuple's names alone -/
def srcTg (s : Src) (tg : Expr) : Bool := match s with
  | .enum => isTupX tg
  | .zip => isTupX tg
  | _ => true
def Tg.ixs : Tg → List Nat
  | .name i => [i]
  | .tup ts => ts
  | .star ts r => r :: ts
  | .nest i ts => i :: ts
def tgNms : Expr → List Str
  | .Name x _ => [x]
  | .Tuple es _ _ => es.filterMap fun e => match e with | .Name x _ => some x | _ => none
  | _ => []
/-- a comprehension's own names are its own in its block too -/
def tgRel (scope sc : Scope) (tg : Expr) : Bool := (tgNms tg).all fun x => decide ((L2.relS scope sc).names.lookup x = some .local) || (decide ((L2.relS scope sc).names.lookup x = some .cell) && decide (scope.names.lookup x = some .cell))
/-- where a parameter's value stands: among those by place, by name, left out -/
def argIx (F : FnI) (many : Nat) (ns : List Str) (p : Str × Nat) : Option Nat :=
  if p.2 < many then (if p.1 ∈ ns then none else some p.2) else match ixOf ns p.1 with
    | some j => some (many + j)
    | none => (ixOf (F.dfl.map (·.1)) p.1).map fun j => many + ns.length + j

section
variable (Γ : Gam) (N : List Str) (sc : Scope) (r : Expr → Option CE)
def cEs : List Expr → Option CEs
  | [] => some .nil
  | e :: es => if notStar e then (match r e, cEs es with
    | some a, some b => some (.cons a b)
    | _, _ => none) else none
def cO : Option Expr → Option CO
  | none => some .no
  | some e => (r e).map .so
def cCst : Const → Option CE
  | .none => some .non
  | .bool b => some (.bl b)
  | .int i => some (.int i)
  | .str x => some (.str x)
  | _ => none
def cNm (x : Str) : Option CE := if x = "__debug__" ∨ x = "__classdict__" then none else if visB sc x then (ixOf N x).map .var else if gloB sc x then (Γ.con.lookup x).map .glo else none
def cUn (op : UnaryOp) (a : Expr) : Option CE := match op with
  | .USub => (r a).map .neg
  | .Not => (r a).map .notE
  | _ => none
def cBool (op : BoolOp) (vs : List Expr) (p : Pos) : Option CE := match vs with
  | [] => none
  | [a] => r a
  | a :: b :: rest => match r a, r (.BoolOp op (b :: rest) p) with
    | some x, some y => some (match op with | .And => .andE x y | .Or => .orE x y)
    | _, _ => none
def noIn (op : CmpOp) : Bool := match op with
  | .In => false
  | .NotIn => false
  | _ => true
def cCmp (a : Expr) (ops : List CmpOp) (es : List Expr) : Option CE := match ops, es with
  | [op], [b] => (match r a, r b with
    | some x, some y => if !isLc b || noIn op then some (.cmp op x y) else none
    | _, _ => none)
  | [op, op2], [b, c] => (match r a, r b, r c with
    | some x, some y, some z => if !isLc c || noIn op2 then some (.chain op op2 x y z) else none
    | _, _, _ => none)
  | _, _ => none
def cKey : Option Expr → Option CE
  | some (.Constant (.str x) _ _) => some (.str x)
  | some (.Constant (.int i) _ _) => some (.int i)
  | _ => none
def cDic (ks : List (Option Expr)) (vs : List Expr) : Option CE := match oMap cKey ks, cEs r vs with
  | some ks', some vs' => if ks.length = vs.length ∧ ks.length ≤ 15 then some (.dicE (esOf ks') vs') else none
  | _, _ => none
/-- is it the step -1 -/
def isM1 : Expr → Bool
  | .UnaryOp .USub (.Constant (.int i) _ _) _ => decide (i = 1)
  | _ => false
def cSub (a i : Expr) : Option CE := match i with
  | .Slice lo hi st _ => (match st with
    | none => (match r a, cO r lo, cO r hi with
      | some x, some l, some h => some (.slc x l h)
      | _, _, _ => none)
    | some e => if isM1 e && lo.isNone && hi.isNone then (r a).map .rev else none)
  | i => (match r a, r i with
    | some x, some y => some (.idx x y)
    | _, _ => none)
def cCall (F : FnI) (as : List Expr) (ks : List Keyword) : Option CE := match cEs r as, cEs r (ks.map (·.value)), oMap (·.arg) ks with
  | some as', some ks', some ns => if ks.isEmpty && decide (as.length = F.ps.length) && !F.kwo then some (.call F.id as' []) else
    (match oMap (argIx F as.length ns) (F.ps.zipIdx) with
      | some ix => if decide ((F.id, as.length, ns) ∈ Γ.kws) && !ix.isEmpty then some (.call F.id (apEs as' (apEs ks' (esOf (F.dfl.map fun d => litD d.2)))) ix) else none
      | none => none)
  | _, _, _ => none
/-- the last apart -/
def lastOf : List Expr → Option (List Expr × Expr)
  | [] => none
  | [e] => some ([], e)
  | a :: b :: r => (lastOf (b :: r)).map fun q => (a :: q.1, q.2)
/-- a call whose last argument is a slot with a lambda -/
def cCallV (F : FnI) (as : List Expr) : Option CE := match lastOf as with
  | some (bs, .Name x _) => if x = "__debug__" ∨ x = "__classdict__" then none else if visB sc x && decide (as.length = F.ps.length) && !F.kwo then (match cEs r bs, ixOf N x with
    | some cs, some j => some (.callV F.id cs j)
    | _, _ => none) else none
  | _ => none
def cIsi (as : List Expr) : Option CE := match as with
  | [x, .Name y _] => (match (if gloB sc y && decide (y ≠ "__debug__") then Γ.xis.lookup y else none) with
    | some cs => if notStar x then (r x).map (fun x' => .isx x' cs) else none
    | none => (match r x, (if gloB sc y && freeB Γ y then tyNm.lookup y else none) with
      | some x', some t => if notStar x then some (.isi x' [t]) else none
      | _, _ => none))
  | _ => none
/-- an exception of the text's own is made, by place or by name (a class of no field is one without an __init__) -/
def cMkx (q : Nat × Str × Str) (as : List Expr) (ks : List Keyword) : Option CE := match as, ks with
  | [a], [] => if notStar a then (r a).map (fun x => if q.2.1 = ("" : Str) then .mkn q.1 x else .mkx q.1 q.2.1 x) else none
  | [], [⟨some k, a, _⟩] => if k = q.2.2 ∧ q.2.1 ≠ ("" : Str) then (r a).map (.mkx q.1 q.2.1) else none
  | _, _ => none
def cCol (as : List Expr) : Option CE := match as with
  | [a] => if notStar a then (match cEs r (srcOf Γ sc a).2 with
    | some es => (match (srcOf Γ sc a).1 with
      | .val => some (.col .val es)
      | .range => some (.col .range es)
      | _ => none)
    | none => none) else none
  | _ => none
/-- d.items(), alone -/
def itmOf : List Expr → Option (Expr × Pos × Pos)
  | [.Call (.Attribute o m ap) [] [] cp] => if m = "items" then some (o, ap, cp) else none
  | _ => none
/-- set(xs), alone -/
def setOf : List Expr → Option Expr
  | [.Call (.Name y _) [a] [] _] => if (decide (y = "set") && (gloB sc y && freeB Γ y)) && notStar a then some a else none
  | _ => none
/-- no names, or strict=True -/
def kwz : List Keyword → Option Bool
  | [] => some false
  | [⟨some x, .Constant (.bool t) _ _, _⟩] => if x = "strict" ∧ t = true then some true else none
  | _ => none
/-- zip(a, b), alone -/
def zipOf : List Expr → Option (Expr × Expr × Bool)
  | [.Call (.Name y _) [a, b] ks _] => if (decide (y = "zip") && (gloB sc y && freeB Γ y)) && (notStar a && notStar b) then (kwz ks).map fun t => (a, b, t) else none
  | _ => none
def cItm (mk : CE → CE) (q : Expr × Pos × Pos) : Option CE := if isCall q.1 || !(q.2.1.endLine == q.2.2.line) then none else (r q.1).map mk
def cBi (f : Str) (as : List Expr) : Option CE := match biOf.lookup f, cEs r as with
  | some b, some as' => if as.isEmpty then none else some (.bi b as')
  | _, _ => none
def cFn (f : Str) (as : List Expr) (ks : List Keyword) : Option CE :=
  if f = "__debug__" then none else if visB sc f then (if f = "__classdict__" ∨ as.isEmpty ∨ !ks.isEmpty then none else (match ixOf N f, cEs r as with
    | some j, some cs => some (.app j cs)
    | _, _ => none)) else if gloB sc f then (match Γ.fns.lookup f with
    | some F => if F.lp then (if ks.isEmpty then cCallV N sc r F as else none) else cCall Γ r F as ks
    | none => match Γ.cls.lookup f with
      | some c => if ks.isEmpty then (cEs r as).map (.make c) else none
      | none => (match Γ.xcs.lookup f with
      | some q => cMkx r q as ks
      | none => if freeB Γ f && ks.isEmpty then (if f = "isinstance" then cIsi Γ sc r as else if f = "list" then (match itmOf as with
          | some q => cItm r .ditm q
          | none => (match zipOf Γ sc as with
            | some q => (match r q.1, r q.2.1 with
              | some x, some y => some (.lzip q.2.2 x y)
              | _, _ => none)
            | none => cCol Γ sc r as)) else if f = "sorted" then (match itmOf as with
          | some q => cItm r .srtItm q
          | none => (match setOf Γ sc as with
            | some a => (r a).map .srtSet
            | none => cBi r f as)) else cBi r f as) else none))
  else none
/-- a call of an own method -/
def cImt (o : Expr) (m : Str) (ap cp : Pos) (as : List Expr) (ks : List Keyword) : Option CE :=
  if isCall o || !(ap.endLine == cp.line) || !ks.isEmpty || decide (29 ≤ as.length) then none else match r o, cEs r as with
    | some o', some as' => some (.imth o' m as')
    | _, _ => none
def cMet (o : Expr) (m : Str) (ap cp : Pos) (as : List Expr) (ks : List Keyword) : Option CE :=
  if isCall o || !(ap.endLine == cp.line) || !ks.isEmpty then none else (match as with
    | [] => (r o).map fun o => .meth o m .nil
    | [a] => if notStar a then (match r o, r a with
      | some o, some a => if m = "update" then some (.dupd o a) else some (.meth o m (.cons a .nil))
      | _, _ => none) else none
    | [a, b] => if notStar a && notStar b then (match r o, r a, r b with
      | some o, some a, some b => if m = "get" then some (.dget o a b) else if m = "setdefault" then some (.dsetd o a b) else none
      | _, _, _ => none) else none
    | _ => none)
/-- a walk over a variable that may be a dict -/
def altK (it : Expr) (as : CEs) (a : CE) (b : Nat → CE) : CE := match it, as with
  | .Name x _, .cons (.var j) .nil => if x ∈ Γ.kwk then .alt a (b j) else a
  | _, _ => a
def cLc (r2 : Expr → Option CE) (elt : Expr) (gs : List Comprehension) (scope : Scope) : Option CE := match gs with
  | [⟨tg, it, ifs, k⟩] => (match tgOf N scope tg, cEs r (srcOf Γ sc it).2, r2 elt, cEs r2 ifs with
    | some t, some as, some elt', some ifs' => if decide (k = 0) && L2.blkC N sc scope (ownOf N scope) && decide (ifs.length ≤ 1) && !isLc it && srcTg (srcOf Γ sc it).1 tg && (t.ixs.all fun i => decide (i ∈ (ownOf N scope).map (·.2))) && tgRel scope sc tg
      then some (altK Γ it as (.lc elt' t (srcOf Γ sc it).1 as ifs' ((ownOf N scope).map (·.2))) fun j => .lcK elt' t j ifs' ((ownOf N scope).map (·.2))) else none
    | _, _, _, _ => none)
  | _ => none
def cDcm (r2 : Expr → Option CE) (kx vx : Expr) (gs : List Comprehension) (scope : Scope) : Option CE := match gs with
  | [⟨tg, it, ifs, k⟩] => (match tgOf N scope tg, cEs r (srcOf Γ sc it).2, r2 kx, r2 vx, cEs r2 ifs with
    | some t, some as, some kx', some vx', some ifs' => if decide (k = 0) && L2.blkC N sc scope (ownOf N scope) && decide (ifs.length ≤ 1) && !isLc it && srcTg (srcOf Γ sc it).1 tg && (t.ixs.all fun i => decide (i ∈ (ownOf N scope).map (·.2))) && tgRel scope sc tg
      then some (altK Γ it as (.dc kx' vx' t (srcOf Γ sc it).1 as ifs' ((ownOf N scope).map (·.2))) fun j => .dcK kx' vx' t j ifs' ((ownOf N scope).map (·.2))) else none
    | _, _, _, _, _ => none)
  | _ => none
end
/-- one step: r is what is known of the parts -/
def stE (Γ : Gam) (N : List Str) (r : Scope → Expr → Option CE) (sc : Scope) (e : Expr) : Option CE := match e with
  | .Constant c _ _ => cCst c
  | .Name x _ => cNm Γ N sc x
  | .BinOp a op b _ => (match r sc a, r sc b with
    | some x, some y => some (.bin op x y)
    | _, _ => none)
  | .UnaryOp op a _ => cUn (r sc) op a
  | .BoolOp op vs p => cBool (r sc) op vs p
  | .IfExp c a b _ => (match r sc c, r sc a, r sc b with
    | some x, some y, some z => some (.ifE x y z)
    | _, _, _ => none)
  | .Compare a ops es _ => cCmp (r sc) a ops es
  | .Tuple es _ _ => (cEs (r sc) es).map .tupE
  | .List es _ => (cEs (r sc) es).map .lstE
  | .Dict ks vs _ => cDic (r sc) ks vs
  | .Subscript a i _ => cSub (r sc) a i
  | .Call f as ks cp => (match f with
    | .Name f _ => cFn Γ N sc (r sc) f as ks
    | .Attribute o m ap => if decide (m ∈ Γ.mth) then cImt (r sc) o m ap cp as ks else cMet (r sc) o m ap cp as ks
    | _ => none)
  | .ListComp elt gs scope _ => cLc Γ N sc (r sc) (r (L2.relS scope sc)) elt gs scope
  | .DictComp kx vx gs scope _ => cDcm Γ N sc (r sc) (r (L2.relS scope sc)) kx vx gs scope
  | .Attribute o f _ => if isCall0 o || !decide (f ∈ Γ.att) then none else (r sc o).map fun o => .attr o f
  | _ => none
def cmE (Γ : Gam) (N : List Str) : Nat → Scope → Expr → Option CE
  | 0, _, _ => none
  | n + 1, sc, e => stE Γ N (cmE Γ N n) sc e

/-! ### statements -/
section
variable (Γ : Gam) (N : List Str) (sc : Scope) (r : Expr → Option CE) (rs : Stmt → Option CS)
def cSs : List Stmt → Option CSs
  | [] => some .nil
  | s :: ss => match rs s, cSs ss with
    | some a, some b => some (.cons a b)
    | _, _ => none
/-- no walk that may be over a dict -/
def noAlt : CE → Bool
  | .alt _ _ => false
  | _ => true
/-- x = e -/
def cAsN (x : Str) (px : Pos) (e : Expr) (p : Pos) : Option CS := match nmOf N sc (.Name x px), r e with
  | some i, some e' => (match e with
    | .ListComp _ _ scope lp => if decide (sc.names.lookup x = some .local) && (px.line == lp.line) && !(scope.names.any fun (n, k) => n == x && (k == .local || k == .cell)) && noAlt e' then some (.set (.name i) e') else none
    | e => if isLc e then none else some (.set (.name i) e'))
  | _, _ => none
def lcl (e : Expr) : Bool := match e with
  | .Name x _ => decide (sc.names.lookup x = some .local)
  | _ => false
/-- the names among targets -/
def nmsOf (ts : List Expr) : List Str := ts.filterMap fun e => match e with | .Name x _ => some x | _ => none
def lnOf (e : Expr) : Nat := e.pos.line
def cAsT (ts : List Expr) (e : Expr) : Option CS := match oMap (nmOf N sc) ts, r e with
  | some is, some e' => (match e with
    | .Tuple vs _ _ => if (decide (vs.length = 2) || decide (vs.length = 3)) && decide (vs.length = ts.length) && ts.all (lcl sc) && vs.all notStar && (ts.all fun t => lnOf t == (ts.head?.map (·.pos.line)).getD 0) && !vs.all (foldedForSure 8) && !vs.all (constantsAlone 8) && decide is.Nodup && decide ((nmsOf ts).eraseDups.length = ts.length) then some (.set (.tup is) e') else if !ts.all (lcl sc) || !(decide (ts.length = 2) || decide (ts.length = 3)) then some (.set (.tup is) e') else if vs.all (foldedForSure 8) then some (.set (.tup is) e') else none
    | .ListComp _ _ _ _ => some (.setLst is e')
    | e => if isLc e then none else some (.set (.tup is) e'))
  | _, _ => none
/-- a, b, *r = .. -/
def starOf (ts : List Expr) : Option (List Expr × Expr) := match lastOf ts with
  | some (bs, .Starred t _) => some (bs, t)
  | _ => none
def cAsStar (bs : List Expr) (t : Expr) (e : Expr) : Option CS := if isLc e || isTupX e then none else match oMap (nmOf N sc) bs, nmOf N sc t, r e with
  | some is, some j, some e' => some (.setStar is j e')
  | _, _, _ => none
def cAs (ts : List Expr) (e : Expr) (p : Pos) : Option CS := match ts with
  | [t] => (match t with
    | .Name x px => cAsN N sc r x px e p
    | .Tuple es _ _ => (match starOf es with
      | some q => cAsStar N sc r q.1 q.2 e
      | none => cAsT N sc r es e)
    | .Subscript o i _ => if isLc e || isSlc i then none else (match r e, r o, r i with
      | some e', some o', some i' => some (.setI o' i' e')
      | _, _, _ => none)
    | .Attribute o f _ => if !decide (f ∈ Γ.att) then none else (match r e, r o with
      | some e', some o' => some (.setA o' f e')
      | _, _ => none)
    | _ => none)
  | _ => none
def cAug (t : Expr) (op : Operator) (e : Expr) : Option CS := match t, op with
  | .Name x p, .Add => (match nmOf N sc (.Name x p), r e with
    | some i, some e' => some (.aug i .Add e')
    | _, _ => none)
  | .Name x p, .Sub => (match nmOf N sc (.Name x p), r e with
    | some i, some e' => some (.aug i .Sub e')
    | _, _ => none)
  | .Attribute o f _, .Add => if decide (f ∈ Γ.att) then (match r o, r e with
    | some o', some e' => some (.augA o' f .Add e')
    | _, _ => none) else none
  | _, _ => none
end
def stS (Γ : Gam) (N : List Str) (sc : Scope) (r : Expr → Option CE) (rs : Stmt → Option CS) (st : Stmt) : Option CS := match st with
  | .Assign ts e p => cAs Γ N sc r ts e p
  | .AugAssign t op e _ => cAug Γ N sc r t op e
  | .If c a b _ => (match r c, cSs rs a, cSs rs b with
    | some c, some a, some b => some (.ifS c a b)
    | _, _, _ => none)
  | .While c b o _ => if o.isEmpty then (match r c, cSs rs b with
    | some c, some b => some (.whl c b)
    | _, _ => none) else none
  | .For tg it b o _ => if o.isEmpty && !isLc it && srcTg (srcOf Γ sc it).1 tg then (match tgOf2 N sc tg, cEs r (srcOf Γ sc it).2, cSs rs b with
    | some t, some as, some b => some (.for_ t (srcOf Γ sc it).1 as b)
    | _, _, _ => none) else none
  | .Return (some e) _ => (r e).map .ret
  | .Return none _ => some .retN
  | .Expr e _ => if isLc e then none else (r e).map .exp
  | .Pass _ => some .pass
  | .Break _ => some .brk
  | .Continue _ => some .cnt
  | _ => none
def cmS (Γ : Gam) (N : List Str) (m : Nat) (sc : Scope) : Nat → Stmt → Option CS
  | 0, _ => none
  | n + 1, st => stS Γ N sc (cmE Γ N m sc) (cmS Γ N m sc n) st
/-- a body: expressions m deep, statements n deep -/
def cmSs (Γ : Gam) (N : List Str) (m n : Nat) (sc : Scope) (b : List Stmt) : Option CSs := cSs (cmS Γ N m sc n) b
end PC
end
section
set_option Elab.async false
set_option linter.all false
set_option maxRecDepth 100000
set_option maxHeartbeats 2000000
/-! PC: what the head is asked for (first, since the head's reckoning wants room). -/
namespace PC
open PySem L2 He
/-- the built-in names that are asked -/
def bltNs : List Str := biOf.map Prod.fst ++ tyNm.map Prod.fst ++ (["isinstance", "list", "range", "enumerate", "zip", "set"] : List Str)
/-- a def of the text as the head is asked for it: ow: the class whose method it is -/
structure DS where
  x : Str
  F : FnI
  st : Stmt
  N : List Str
  m : Nat := 30
  n : Nat := 20
  ow : Option Str := none
def DS.at_ (d : DS) : Str × Option Str := match d.ow with
  | none => (d.x, none)
  | some c => (c, some d.x)
def DS.qual (d : DS) : Str := match d.ow with
  | none => d.x
  | some c => c ++ "." ++ d.x
def dvOf : D → Dv
  | .bl b => .bl b
  | .int i => .int i
  | .str x => .str x
  | _ => .non
abbrev DS.dd (d : DS) : DefD := ⟨d.at_, d.x, d.qual, defArgs d.st, defBody d.st, defScope d.st, [], d.F.dfl.map fun q => (q.1, dvOf q.2)⟩
/-- a class of the text: its name, its __init__'s number, its methods' numbers -/
structure KS where
  x : Str
  ini : Nat
  meths : List (Str × Nat)
/-- the constants -/
def conB (K : PySem.W.Frag) (x : Str) : D → Bool
  | .int i => (Fa.int x i).ok K
  | .str z => (Fa.str x z).ok K
  | .tup ds => (Fa.glo x).ok K && tupB K x (ds.map fun d => match d with | .int i => Dv.int i | .str z => Dv.str z | _ => Dv.non) && ds.all fun d => match d with | .int _ => true | .str _ => true | .non => true | _ => false
  | _ => false
/-- the facts that are asked -/
def faOf (Γ : Gam) : List Fa := Γ.fns.map (fun q => Fa.glo q.1) ++ (bltNs.filter (freeB Γ)).map Fa.free
/-- what is asked of the classes -/
def faK (Γ : Gam) (ks : List KS) : List Fa := ks.flatMap fun k => [Fa.glo k.x, Fa.cls k.x, Fa.mkr k.x] ++ (Γ.att.map (Fa.noat k.x) ++ k.meths.map fun q => Fa.meth k.x q.1)
def faA (Γ : Gam) (ks : List KS) : List Fa := faOf Γ ++ faK Γ ks
def exOf (Γ : Gam) (gl : List D) (K : PySem.W.Frag) : Bool := Γ.con.all fun q => match gl[q.2]? with
  | some d => conB K q.1 d
  | none => false
/-- an exception's class of the text: its name, its one field, its __init__'s parameter (no field: no __init__ of the text's), is it over KeyError -/
structure XS where
  x : Str
  f : Str
  y : Str
  ke : Bool := false
/-- KeyError's mro -/
def kTl : List Value := [.type "KeyError", .type "LookupError", .type "Exception", .type "BaseException", .type "object"]
/-- over ValueError, over KeyError, with its dict -/
def oexK (ke : Bool) (K : PySem.W.Frag) (C : Addr) : Bool := match K.lookup C with
  | some ⟨.type "type", _, .cls cd, sl⟩ => (match cd.mro, sl.toList with
    | .ref C' :: bm, [_, _, _, _, some (.builtin n), _] => C' == C && (cond ke (n == "LookupError.__new__" && bm == kTl) (n == "ValueError.__new__" && PySem.HandSPX.refsVE bm) && (!cd.hasDel && cd.hasDict))
    | _, _ => false)
  | _ => false
def oexB (ke : Bool) (K : PySem.W.Frag) (C : Addr) : Bool := oexK ke K C && (eqO (PySem.W.findIn K (.ref C) "__setattr__") (some (some (.builtin "object.__setattr__"))) && (decide (PySem.W.subIn K (.ref C) (.type "BaseException") = some true) && (decide (PySem.W.typeIn K (.ref C) = some (.type "type")) && PySem.W.keepIn K (.ref C))))
/-- what isinstance, an except clause ask of it -/
def excB (K : PySem.W.Frag) (C : Addr) : Bool := eqO (PySem.W.findIn K (.ref C) "__getattribute__") (some (some (.builtin "BaseException.__getattribute__"))) && (eqO (PySem.W.findIn K (.ref C) "__getattr__") (some none) && (decide (PySem.W.subIn K (.ref C) (.type "BaseException") = some true) && (PySem.W.hasDictIn K C &&
  (eqO (PySem.W.findIn K (.ref C) "__class__") (some (some (.builtin "object.__class__"))) && (eqO (PySem.W.specialIn K (.builtin "object.__class__") "__get__") (some (some (.builtin "getset_descriptor.__get__"))) && (decide (PySem.W.takesIn K (.builtin "object.__class__") = some true) && decide (PySem.W.mroIn K C (.type "object") = some true)))))))
/-- its base, whose __init__ is ValueError's -/
def oinB (K : PySem.W.Frag) (B : Addr) : Bool := eqO (PySem.W.specialIn K (.ref B) "__getattribute__") (some (some (.builtin "type.__getattribute__"))) && (PySem.W.readsIn K B (.type "type") && match PySem.W.findCls K (.ref B) (.type "type") "__init__" with
  | some (.val (.builtin n)) => decide (n = "ValueError.__init__")
  | _ => false)
/-- a class that isinstance asks for: the text's own, or a built-in one -/
def xcv (K : PySem.W.Frag) (y : Str) : Value := match PySem.W.nsIn K mainGlobals y with
  | some (some v) => v
  | _ => (bootBuiltins y).getD .none
def xisB (K : PySem.W.Frag) (xs : List XS) (y : Str) (cs : List Nat) : Bool := (match PySem.W.nsIn K mainGlobals y with
    | some (some (.ref _)) => true
    | some none => (match bootBuiltins y with
      | some (.type _) => decide (y ≠ "__name__")
      | _ => false)
    | _ => false) && xs.zipIdx.all fun k => decide (PySem.W.kitOne K (.ref (ga K k.1.x)) (xcv K y) = some (decide (k.2 ∈ cs)))
/-- what is asked of a class with an __init__, of one without -/
def xsI (Γ : Gam) (K : PySem.W.Frag) (k : XS) : Bool := oexB k.ke K (ga K k.x) && (eqO (PySem.W.findIn K (.ref (ga K k.x)) k.f) (some none) && (eqO (PySem.W.findIn K (.ref (ga K k.x)) "__init__") (some (some (.ref (ma K (ga K k.x) "__init__")))) && decide (PySem.W.typeIn K (.ref (ma K (ga K k.x) "__init__")) = some (.type "function"))))
def xsN (K : PySem.W.Frag) (k : XS) : Bool := PySem.W.excIn K (ga K k.x) PySem.HandSPX.veTail "ValueError.__new__" && PySem.W.keepIn K (.ref (ga K k.x))
def xsB (Γ : Gam) (K : PySem.W.Frag) (k : XS) : Bool := (Fa.glo k.x).ok K && (excB K (ga K k.x) && ((Γ.att.all fun f => eqO (PySem.W.findIn K (.ref (ga K k.x)) f) (some none)) && cond (decide (k.f = "")) (xsN K k) (xsI Γ K k)))
/-- KeyError's own __init__ -/
def keB (K : PySem.W.Frag) : Bool := (Fa.free "KeyError").ok K && match PySem.W.findCls K (.type "KeyError") (.type "type") "__init__" with
  | some (.val (.builtin n)) => decide (n = "KeyError.__init__")
  | _ => false
/-- all that is asked of exceptions -/
def exX (Γ : Gam) (Bn : Str) (xs : List XS) (K : PySem.W.Frag) : Bool := xs.all (xsB Γ K) && ((Fa.glo Bn).ok K && (oinB K (ga K Bn) && (cond (xs.any XS.ke) (keB K) true && Γ.xis.all fun q => xisB K xs q.1 q.2)))
/-! ### the head's look, with the interpreter's own statics beside what the names reach (given by addresses) -/
/-- the addresses that the head looks at are named one by one: to search them costs the kernel room -/
def obsS (as : List Addr) (fa : List Fa) (fn : List DefD) (tf : List Defn) (ex : PySem.W.Frag → Bool) (g : Addr → Option Obj) : AlX :=
  let K := frT g as
  (obsT fa fn [] K, ex K && tabsB g tf K)
theorem saysS_of {as : List Addr} {fa : List Fa} {fn : List DefD} {tf : List Defn} {ex : PySem.W.Frag → Bool} {w : World} {h : Heap} (e : obsS as fa fn tf ex h.get? = valX fn [] w) : SaysX fa fn [] tf ex w h (frT h.get? as) := by
  have more : (ex (frT h.get? as) && tabsB h.get? tf (frT h.get? as)) = true := congrArg (fun z : AlX => z.2) e
  obtain ⟨m1, m2⟩ := ba more
  have each : ∀ p ∈ tf, PySem.W.codeHdIn (frT h.get? as) (cT (frT h.get? as) p).1 (cT (frT h.get? as) p).2 = true ∧ ∃ o, h.get? (cT (frT h.get? as) p).2 = some o ∧ emptyTab o = true := by
    intro p hp
    obtain ⟨q1, q2⟩ := ba (List.all_eq_true.mp m2 p hp)
    refine ⟨q1, ?_⟩
    split at q2
    · rename_i o ho
      exact ⟨o, ho, q2⟩
    · cases q2
  refine ⟨congrArg (fun z : AlX => z.1) e, m1, fun p hp => (each p hp).1, fun p hp => ?_, fun p hp => ?_⟩
  · obtain ⟨_, o, q, z⟩ := each p hp
    exact frT_none q z
  · obtain ⟨_, o, q, z⟩ := each p hp
    rw [q, emptyTab_eq z]
def hookS (as : List Addr) (fa : List Fa) (fn : List DefD) (tf : List Defn) (ex : PySem.W.Frag → Bool) : PySem.W.Hook where
  α := AlX
  obs := fun s => obsS as fa fn tf ex s.heap.get?
  val := fun w => valX fn [] w
  says := fun w h => ∃ K : PySem.W.Frag, K.In h ∧ SaysX fa fn [] tf ex w h K
  of := fun _ _ e => ⟨_, frT_in, saysS_of e⟩
  keeps := fun _ _ _ ⟨K, hK, c⟩ k => ⟨K, PySem.W.Frag.In.keeps hK k, ⟨c.t, c.more, c.hd, c.out, fun p hp => k _ _ (c.empty p hp)⟩⟩
theorem obsS_eq {as : List Addr} {fa : List Fa} {fn : List DefD} {tf : List Defn} {ex : PySem.W.Frag → Bool} {g : Addr → Option Obj} {s : Shared} (h : ∀ a, g a = s.heap.get? a) : obsS as fa fn tf ex g = (hookS as fa fn tf ex).obs s := by
  have e : g = s.heap.get? := funext h
  rw [e]
  rfl
end PC
end
section
set_option Elab.async false
set_option linter.all false
set_option maxRecDepth 100000
set_option maxHeartbeats 0
namespace K05
open PySem PC
def txt (i : Nat) : Stmt := PySem.Challenge.pw_kinferry_k05_refusals_made.main.body.getD i (.Pass ⟨0, 0, 0, 0⟩)
def gam : Gam := ⟨[(("_law_deck" : Str), (⟨0, ["script"], [], false, false⟩ : FnI)),
  (("_law_draw" : Str), (⟨1, ["deck", "ways"], [], false, false⟩ : FnI)),
  (("_law_pick" : Str), (⟨2, ["deck", "some"], [], false, false⟩ : FnI)),
  (("_law_thing" : Str), (⟨3, ["deck"], [], false, false⟩ : FnI)),
  (("_law_kinds" : Str), (⟨4, ["made"], [], false, false⟩ : FnI)),
  (("_law_above" : Str), (⟨5, ["made"], [], false, false⟩ : FnI)),
  (("_law_bore" : Str), (⟨6, ["thing"], [], false, false⟩ : FnI)),
  (("_law_all" : Str), (⟨7, ["thing", "text"], [], false, false⟩ : FnI)),
  (("_law_raised" : Str), (⟨8, ["thing"], [], false, false⟩ : FnI)),
  (("law" : Str), (⟨9, ["script"], [], false, false⟩ : FnI))],
  [], [], [((10 : Nat), (1 : Nat), (["door"] : List Str)), ((11 : Nat), (1 : Nat), (["place"] : List Str)), ((12 : Nat), (1 : Nat), (["name"] : List Str)), ((13 : Nat), (1 : Nat), (["name"] : List Str)), ((14 : Nat), (1 : Nat), (["name"] : List Str)), ((15 : Nat), (1 : Nat), (["run"] : List Str)), ((16 : Nat), (1 : Nat), (["name"] : List Str))], ["door", "place", "name", "run"], [], [], [(("NoText" : Str), (0 : Nat), ("" : Str), ("" : Str)), (("NoBook" : Str), (1 : Nat), ("" : Str), ("" : Str)), (("NoPaper" : Str), (2 : Nat), ("" : Str), ("" : Str)), (("NoStand" : Str), (3 : Nat), ("" : Str), ("" : Str)), (("NoRow" : Str), (4 : Nat), ("" : Str), ("" : Str)), (("NoDoor" : Str), (5 : Nat), ("door" : Str), ("door" : Str)), (("NoTurn" : Str), (6 : Nat), ("place" : Str), ("place" : Str)), (("NoName" : Str), (7 : Nat), ("name" : Str), ("name" : Str)), (("Taken" : Str), (8 : Nat), ("name" : Str), ("name" : Str)), (("NoCode" : Str), (9 : Nat), ("name" : Str), ("name" : Str)), (("InUse" : Str), (10 : Nat), ("run" : Str), ("run" : Str)), (("Absent" : Str), (11 : Nat), ("name" : Str), ("name" : Str)), (("FerryError" : Str), (12 : Nat), ("" : Str), ("" : Str))], [(("NoText" : Str), ([0] : List Nat)), (("NoBook" : Str), ([1] : List Nat)), (("NoPaper" : Str), ([2] : List Nat)), (("NoStand" : Str), ([3] : List Nat)), (("FerryError" : Str), ([0, 1, 2, 3, 4, 5, 6, 7, 8, 9, 10, 12] : List Nat)), (("ValueError" : Str), ([0, 1, 2, 3, 4, 5, 6, 7, 8, 9, 10, 12] : List Nat)), (("KeyError" : Str), ([11] : List Nat)), (("NoRow" : Str), ([4] : List Nat)), (("NoDoor" : Str), ([5] : List Nat)), (("NoTurn" : Str), ([6] : List Nat)), (("NoName" : Str), ([7] : List Nat)), (("Taken" : Str), ([8] : List Nat)), (("NoCode" : Str), ([9] : List Nat)), (("InUse" : Str), ([10] : List Nat)), (("Absent" : Str), ([11] : List Nat))]⟩
abbrev s0 : Stmt := txt 15   -- _law_deck
def n0 : List Str := ["script", "cells", "seed", "cell"]
def d0 : DS := { x := "_law_deck", F := ⟨0, ["script"], [], false, false⟩, st := s0, N := n0, ow := none }
abbrev s1 : Stmt := txt 16   -- _law_draw
def n1 : List Str := ["deck", "ways", "cell", "mixed"]
def d1 : DS := { x := "_law_draw", F := ⟨1, ["deck", "ways"], [], false, false⟩, st := s1, N := n1, ow := none }
abbrev s2 : Stmt := txt 17   -- _law_pick
def n2 : List Str := ["deck", "some"]
def d2 : DS := { x := "_law_pick", F := ⟨2, ["deck", "some"], [], false, false⟩, st := s2, N := n2, ow := none }
abbrev s3 : Stmt := txt 18   -- _law_thing
def n3 : List Str := ["deck", "word", "k", "number"]
def d3 : DS := { x := "_law_thing", F := ⟨3, ["deck"], [], false, false⟩, st := s3, N := n3, ow := none }
abbrev s4 : Stmt := txt 19   -- _law_kinds
def n4 : List Str := ["made", "some", "k", "one"]
def d4 : DS := { x := "_law_kinds", F := ⟨4, ["made"], [], false, false⟩, st := s4, N := n4, ow := none }
abbrev s5 : Stmt := txt 20   -- _law_above
def n5 : List Str := ["made"]
def d5 : DS := { x := "_law_above", F := ⟨5, ["made"], [], false, false⟩, st := s5, N := n5, ow := none }
abbrev s6 : Stmt := txt 21   -- _law_bore
def n6 : List Str := ["thing", "found"]
def d6 : DS := { x := "_law_bore", F := ⟨6, ["thing"], [], false, false⟩, st := s6, N := n6, ow := none }
abbrev s7 : Stmt := txt 22   -- _law_all
def n7 : List Str := ["thing", "text", "some"]
def d7 : DS := { x := "_law_all", F := ⟨7, ["thing", "text"], [], false, false⟩, st := s7, N := n7, ow := none }
abbrev s8 : Stmt := txt 23   -- _law_raised
def n8 : List Str := ["thing", "found", "e"]
def d8 : DS := { x := "_law_raised", F := ⟨8, ["thing"], [], false, false⟩, st := s8, N := n8, ow := none }
abbrev s9 : Stmt := txt 24   -- law
def n9 : List Str := ["script", "deck", "turn", "thing", "text", "some", "made", "k"]
def d9 : DS := { x := "law", F := ⟨9, ["script"], [], false, false⟩, st := s9, N := n9, ow := none }
abbrev s10 : Stmt := L2.inClass (txt 7) 0   -- NoDoor.__init__
def n10 : List Str := ["self", "door"]
def d10 : DS := { x := "__init__", F := ⟨10, ["self", "door"], [], false, false⟩, st := s10, N := n10, ow := some "NoDoor" }
abbrev s11 : Stmt := L2.inClass (txt 8) 0   -- NoTurn.__init__
def n11 : List Str := ["self", "place"]
def d11 : DS := { x := "__init__", F := ⟨11, ["self", "place"], [], false, false⟩, st := s11, N := n11, ow := some "NoTurn" }
abbrev s12 : Stmt := L2.inClass (txt 9) 0   -- NoName.__init__
def n12 : List Str := ["self", "name"]
def d12 : DS := { x := "__init__", F := ⟨12, ["self", "name"], [], false, false⟩, st := s12, N := n12, ow := some "NoName" }
abbrev s13 : Stmt := L2.inClass (txt 10) 0   -- Taken.__init__
def n13 : List Str := ["self", "name"]
def d13 : DS := { x := "__init__", F := ⟨13, ["self", "name"], [], false, false⟩, st := s13, N := n13, ow := some "Taken" }
abbrev s14 : Stmt := L2.inClass (txt 11) 0   -- NoCode.__init__
def n14 : List Str := ["self", "name"]
def d14 : DS := { x := "__init__", F := ⟨14, ["self", "name"], [], false, false⟩, st := s14, N := n14, ow := some "NoCode" }
abbrev s15 : Stmt := L2.inClass (txt 12) 0   -- InUse.__init__
def n15 : List Str := ["self", "run"]
def d15 : DS := { x := "__init__", F := ⟨15, ["self", "run"], [], false, false⟩, st := s15, N := n15, ow := some "InUse" }
abbrev s16 : Stmt := L2.inClass (txt 13) 0   -- Absent.__init__
def n16 : List Str := ["self", "name"]
def d16 : DS := { x := "__init__", F := ⟨16, ["self", "name"], [], false, false⟩, st := s16, N := n16, ow := some "Absent" }
def ds : List DS := [d0, d1, d2, d3, d4, d5, d6, d7, d8, d9]
def dx : List DS := [d10, d11, d12, d13, d14, d15, d16]
def xs : List XS := [⟨"NoText", "", "", false⟩, ⟨"NoBook", "", "", false⟩, ⟨"NoPaper", "", "", false⟩, ⟨"NoStand", "", "", false⟩, ⟨"NoRow", "", "", false⟩, ⟨"NoDoor", "door", "door", false⟩, ⟨"NoTurn", "place", "place", false⟩, ⟨"NoName", "name", "name", false⟩, ⟨"Taken", "name", "name", false⟩, ⟨"NoCode", "name", "name", false⟩, ⟨"InUse", "run", "run", false⟩, ⟨"Absent", "name", "name", true⟩, ⟨"FerryError", "", "", false⟩]
def ks : List KS := []
def glos : List D := []
end K05
end
section
set_option Elab.async false
set_option linter.all false
set_option maxRecDepth 100000
set_option maxHeartbeats 0
namespace K05
open PySem PC L2
/-- the except clauses of _law_raised, by class -/
def exms : List (Str × Str × Bool) := [("NoDoor", "FerryError", true), ("Absent", "Absent", true), ("InUse", "InUse", true)]
def exmB (K : PySem.W.Frag) : Bool := exms.all fun q => (He.Fa.exm q.1 q.2.1 q.2.2).ok K
def ex (K : PySem.W.Frag) : Bool := exOf gam glos K && (exX gam "FerryError" xs K && exmB K)
/-- the addresses of what is looked at (found by an evaluation; that they do is shown by runEq) -/
def looked : List Addr := [3, 6, 4, 24, 37, 49, 61, 73, 85, 104, 123, 142, 161, 180, 199, 218, 228, 235, 242, 247, 252, 259, 266, 273, 280, 285, 0, 23, 36, 48, 60, 72, 84, 103, 122, 141, 160, 179, 198, 217, 227, 234, 241, 246, 251, 258, 265, 272, 279, 284, 22, 25, 35, 47, 59, 71, 83, 101, 102, 120, 121, 139, 140, 158, 159, 177, 178, 196, 197, 215, 216, 219, 222, 224, 225, 226, 229, 231, 232, 233, 236, 238, 239, 240, 243, 245, 248, 250, 253, 255, 256, 257, 260, 262, 263, 264, 267, 269, 270, 271, 274, 276, 277, 278, 281, 283, 100, 119, 138, 157, 176, 195, 214, 95, 97, 98, 99, 114, 116, 117, 118, 133, 135, 136, 137, 152, 154, 155, 156, 171, 173, 174, 175, 190, 192, 193, 194, 209, 211, 212, 213, 2]
abbrev Rw : PySem.W.OpenRow := PySem.W.OpenLaw.row PySem.Challenge.rw_kinferry_k05_refusals_made
abbrev hk : PySem.W.Hook := hookS looked (faA gam ks) ((ds ++ dx).map DS.dd) [] ex
def ob (s : PySem.W.SharedT) : He.AlX := obsS looked (faA gam ks) ((ds ++ dx).map DS.dd) [] ex (HandSHeadRun.getT s)
theorem ob_eq (s : PySem.W.SharedT) : ob s = hk.obs s.abs := obsS_eq (HandSHeadRun.getT_eq s)
def loose : List Str := gam.con.map Prod.fst ++ (gam.cls.map Prod.fst ++ (xs.map XS.x ++ List.filter (fun x : Str => decide (x ≠ ("law" : Str))) (gam.fns.map Prod.fst)))
theorem runEq (w : World) : HandSHeadRun.RunEq Rw (PySem.W.view Rw.prog [24]) hk ob 20000 loose w := by
  intro os
  kernel_rfl
end K05
end
section
set_option Elab.async false
set_option linter.all false
set_option maxRecDepth 100000
/-! PC: how PC's values and stores stand for the abstract heap's. -/
namespace PC
open PySem L2

/-- a lambda of the text -/
structure LmI where
  params : Arguments
  body : Expr
  scope : Scope
  qual : Str
  ps : List Str
  fr : List Str
  N : List Str
/-- where the program's own things stand -/
structure Wd where
  K : PySem.W.Frag
  fa : Nat → Addr
  ca : Nat → Addr
  /-- the tables of code objects that lambdas go to -/
  T : List (Addr × Str)
  lm : Nat → Option LmI
  /-- how many classes of the text's own there are -/
  nc : Nat := 0
  /-- the world's texts by numbers -/
  w : World
  /-- exceptions of the text's own: their classes, the fields that they bear -/
  xa : Nat → Addr := fun _ => 0
  nx : Nat := 0

section
variable (W : Wd) (ι : List Addr) (H : Hp)
mutual
def DV : D → V → Prop
  | .non, v => v = .non
  | .bl b, v => v = .bl b
  | .int i, v => v = .int i
  | .str x, v => v = .str x
  | .tup xs, v => ∃ a vs, v = .ref a ∧ SqT W.K H a vs ∧ DVs xs vs
  | .frl xs, v => ∃ a vs, v = .ref a ∧ ((∃ o, H a = some (.frz o (.lst vs))) ∨ (∃ (o : Obj) (its : Array Value) (n : Nat), W.K.lookup a = some o ∧ o.cls = .type "list" ∧ o.dict = none ∧ o.data = .seq its n ∧ its.size ≤ sizeLine ∧ Vals vs its.toList)) ∧ DVs xs vs
  | .ref n, v => ∃ a, v = .ref a ∧ ι[n]? = some a
  | .fn n, v => v = .ref (W.fa n)
  | .lam _ _, _ => False
  | .exc c f x, v => c < W.nx ∧ ∃ a d vx oe od, v = .ref a ∧ H a = some (.frz oe (exo a (W.xa c) (some d))) ∧ H d = some (.frz od (exd d [(f, vx)])) ∧ DV x vx
  | .exn c, v => c < W.nx ∧ ∃ a oe, v = .ref a ∧ H a = some (.frz oe (ExO (.ref (W.xa c)) a))
def DVs : List D → List V → Prop
  | [], vs => vs = []
  | d :: ds, vs => ∃ v r, vs = v :: r ∧ DV d v ∧ DVs ds r
end
end
def KVr (W : Wd) (ι : List Addr) (H : Hp) {κ : Type} (a : List (κ × D)) (b : List (κ × V)) : Prop := Paired (fun (p : κ × D) (q : κ × V) => p.1 = q.1 ∧ DV W ι H p.2 q.2) a b
/-- a dict whose keys are tuples of ints and texts, by its entries -/
def dtF (P : Program) (w : World) (a : Addr) (xs : List (List Key × Addr × Value)) (h : Heap) : Prop := (a == sysModules) = false ∧
  ∃ o es ep, h.get? a = some o ∧ o.ExactDict ∧ o.data = .dict es ep ∧ es.toList = xs.map (entryOfKey (tupleKind (mixKind P w))) ∧ (xs.map (·.1)).Nodup
def dtO (P : Program) (w : World) (a : Addr) (xs : List (List Key × Addr × Value)) : HO := .ext (dtF P w a xs)
/-- a heap of one object's copies is none with such a dict -/
theorem dtF_one (P : Program) (w : World) (a c : Addr) (xs : List (List Key × Addr × Value)) (co : Obj) (ha : co.alive = true) (hn : ∀ es ep, co.data ≠ .dict es ep) : ∃ h : Heap, h.get? c = some co ∧ ¬ dtF P w a xs h := by
  let h : Heap := { objs := Array.replicate (c + 1) co }
  have at_ : ∀ b o, h.get? b = some o → o = co := fun b o e => by
    have e' := ((Heap.get?_eq_some h b o).mp e).1
    have := Array.getElem?_eq_some_iff.mp e'
    obtain ⟨hb, e2⟩ := this
    rw [← e2]
    exact Array.getElem_replicate _
  have hc : h.get? c = some co := (Heap.get?_eq_some h c co).mpr ⟨by
    show (Array.replicate (c + 1) co)[c]? = _
    rw [Array.getElem?_replicate, if_pos (Nat.lt_succ_self c)], ha⟩
  refine ⟨h, hc, ?_⟩
  rintro ⟨_, o, es, ep, e, _, hd, _⟩
  have := at_ a o e
  subst this
  exact hn es ep hd
theorem dtF_code (P : Program) (w : World) (a c : Addr) (q : Str) (xs : List (List Key × Addr × Value)) : HO.ext (dtF P w a xs) ≠ LamX.CodeO c q := fun z => by
  unfold LamX.CodeO at z
  injection z with z
  obtain ⟨h, hc, hn⟩ := dtF_one P w a c xs { cls := .none, data := .fields #[.none, .str q 0] } rfl (fun _ _ z => nomatch z)
  refine hn ?_
  rw [z]
  exact ⟨_, _, 0, hc, rfl, rfl⟩
/-- nor an object of another kind -/
theorem dtF_obo {P : Program} {w : World} {a c : Addr} {xs : List (List Key × Addr × Value)} {o : Obj} {h0 : Heap} (hn : ∀ es ep, o.data ≠ .dict es ep) (z : HO.ext (fun h => h.get? c = some o) = HO.ext (dtF P w a xs)) (h : dtF P w a xs h0) : False := by
  injection z with z
  have h1 : h0.get? c = some o := by
    have := congrFun z h0
    rw [this]
    exact h
  have ha := ((Heap.get?_eq_some h0 c o).mp h1).2
  obtain ⟨h2, hc, nn⟩ := dtF_one P w a c xs o ha hn
  refine nn ?_
  rw [← z]
  exact hc
/-- the entries of such -/
def DTr (W : Wd) (ι : List Addr) (H : Hp) (kvs : List (List Ky × D)) (xs : List (List Key × Addr × Value)) : Prop :=
  Paired (fun (p : List Ky × D) (q : List Key × Addr × Value) => p.1 = q.1 ∧ SqT W.K H q.2.1 (q.1.map kV) ∧ ∃ v, RelV v q.2.2 ∧ DV W ι H p.2 v) kvs xs
/-- the object of a store's number, at its address -/
def OV (W : Wd) (ι : List Addr) (H : Hp) (a : Addr) : Ob → Prop
  | .lst ds => ∃ vs, H a = some (.lst vs) ∧ DVs W ι H ds vs
  | .fro ds => ∃ vs, H a = some (.lst vs) ∧ DVs W ι H ds vs
  | .dk kvs => ∃ vs, H a = some (.dK vs) ∧ KVr W ι H kvs vs
  | .frk kvs => ∃ o vs, H a = some (.frz o (.dK vs)) ∧ KVr W ι H kvs vs
  | .dt kvs => ∃ P xs, H a = some (dtO P W.w a xs) ∧ DTr W ι H kvs xs ∧ ∃ h, dtF P W.w a xs h
  | .ins c fs => c < W.nc ∧ ∃ dx gs, H a = some (.ins (W.ca c) dx gs) ∧ KVr W ι H fs gs
structure Rep (W : Wd) (ι : List Addr) (S : Sto) (H : Hp) : Prop where
  len : ι.length = S.length
  nd : ι.Nodup
  ob : ∀ (n : Nat) a o, ι[n]? = some a → S[n]? = some o → OV W ι H a o
  tab : LamX.Tabs W.T H
/-- it stands still -/
def Fz : Option Ob → Prop
  | some (.fro _) => True
  | some (.frk _) => True
  | _ => False
structure Ext (ι : List Addr) (S : Sto) (H : Hp) (ι' : List Addr) (S' : Sto) (H' : Hp) : Prop where
  pre : ∃ new, ι' = ι ++ new ∧ ∀ a ∈ new, ∀ o, H a = some o → ∃ ps, o = .tbl ps
  keep : ∀ a o, H a = some o → (∀ ps, o ≠ .tbl ps) → (a ∈ ι → ∃ n : Nat, ι[n]? = some a ∧ Fz S[n]?) → H' a = some o
  fr : ∀ n : Nat, Fz S[n]? → S'[n]? = S[n]?

section
variable {W : Wd} {ι ι' ι2 : List Addr} {S S' S2 : Sto} {H H' H2 : Hp}
theorem Ext.refl : Ext ι S H ι S H := ⟨⟨[], by simp, by simp⟩, fun _ _ h _ _ => h, fun _ _ => rfl⟩
theorem Ext.get (E : Ext ι S H ι' S' H') {n : Nat} {a : Addr} (h : ι[n]? = some a) : ι'[n]? = some a := by
  obtain ⟨new, rfl, _⟩ := E.pre
  rw [List.getElem?_append_left (List.getElem?_eq_some_iff.mp h).1]
  exact h
theorem Ext.back (E : Ext ι S H ι' S' H') {a : Addr} {o : HO} (ho : H a = some o) (nt : ∀ ps, o ≠ .tbl ps) (h : a ∈ ι') : a ∈ ι := by
  obtain ⟨new, rfl, hn⟩ := E.pre
  rcases List.mem_append.mp h with h | h
  · exact h
  · obtain ⟨ps, z⟩ := hn a h o ho
    exact absurd z (nt ps)
/-- what may stand at an address of a store's number -/
def Own : HO → Prop
  | .lst _ => True
  | .dK _ => True
  | .dT _ => True
  | .ext φ => ∃ P w a xs h, HO.ext φ = HO.ext (dtF P w a xs) ∧ dtF P w a xs h
  | .ins _ _ _ => True
  | .frz _ (.dK _) => True
  | _ => False
theorem OV.held {a : Addr} {o : Ob} (h : OV W ι H a o) : ∃ u, H a = some u ∧ Own u := by
  cases o with
  | lst ds => obtain ⟨vs, e, _⟩ := h; exact ⟨_, e, trivial⟩
  | fro ds => obtain ⟨vs, e, _⟩ := h; exact ⟨_, e, trivial⟩
  | dk kvs => obtain ⟨vs, e, _⟩ := h; exact ⟨_, e, trivial⟩
  | frk kvs => obtain ⟨o, vs, e, _⟩ := h; exact ⟨_, e, trivial⟩
  | dt kvs => obtain ⟨P, vs, e, _, h, q⟩ := h; exact ⟨_, e, P, W.w, a, vs, h, rfl, q⟩
  | ins c fs => obtain ⟨_, dx, vs, e, _⟩ := h; exact ⟨_, e, trivial⟩
theorem Rep.at (R : Rep W ι S H) {n : Nat} {a : Addr} (h : ι[n]? = some a) : ∃ o, S[n]? = some o ∧ OV W ι H a o := by
  have hl : n < S.length := by
    rw [← R.len]
    exact (List.getElem?_eq_some_iff.mp h).1
  exact ⟨S[n], List.getElem?_eq_getElem hl, R.ob n a _ h (List.getElem?_eq_getElem hl)⟩
theorem Rep.mem (R : Rep W ι S H) {a : Addr} (h : a ∈ ι) : ∃ u, H a = some u ∧ Own u := by
  obtain ⟨n, hn⟩ := List.mem_iff_getElem?.mp h
  obtain ⟨o, _, q⟩ := R.at hn
  exact OV.held q
theorem Rep.addr (R : Rep W ι S H) {n : Nat} {o : Ob} (h : S[n]? = some o) : ∃ a, ι[n]? = some a ∧ OV W ι H a o := by
  have hl : n < ι.length := by
    rw [R.len]
    exact (List.getElem?_eq_some_iff.mp h).1
  exact ⟨ι[n], List.getElem?_eq_getElem hl, R.ob n _ o (List.getElem?_eq_getElem hl) h⟩
theorem Rep.fresh (R : Rep W ι S H) {p : Addr} (h : H p = none) : p ∉ ι := fun hm => by
  obtain ⟨u, e, _⟩ := R.mem hm
  rw [h] at e
  cases e
theorem Ext.trans (E : Ext ι S H ι' S' H') (R : Rep W ι' S' H') (F : Ext ι' S' H' ι2 S2 H2) : Ext ι S H ι2 S2 H2 := by
  refine ⟨?_, fun a o h nt k => ?_, fun n h => ?_⟩
  · obtain ⟨n1, e1, h1⟩ := id E.pre
    obtain ⟨n2, e2, h2⟩ := id F.pre
    refine ⟨n1 ++ n2, by rw [e2, e1, List.append_assoc], fun a ha o q => ?_⟩
    rcases List.mem_append.mp ha with ha | ha
    · exact h1 a ha o q
    · by_cases nt : ∃ ps, o = .tbl ps
      · exact nt
      · have nt' : ∀ ps, o ≠ .tbl ps := fun ps z => nt ⟨ps, z⟩
        have hni : a ∉ ι := fun z => by
          have hm : a ∈ ι' := by rw [e1]; exact List.mem_append_left _ z
          obtain ⟨u, e, own⟩ := R.mem hm
          obtain ⟨ps, rfl⟩ := h2 a ha u e
          exact own
        exact h2 a ha o (E.keep a o q nt' fun z => absurd z hni)
  · refine F.keep a o (E.keep a o h nt k) nt fun hm => ?_
    obtain ⟨n, hn, hf⟩ := k (E.back h nt hm)
    exact ⟨n, E.get hn, by rw [E.fr n hf]; exact hf⟩
  · have e := E.fr n h
    rw [← e]
    exact F.fr n (by rw [e]; exact h)
/-- what is tracked and no store's object stays -/
theorem Ext.tup (E : Ext ι S H ι' S' H') (R : Rep W ι S H) {K : PySem.W.Frag} {a : Addr} {vs : List V} (h : SqT K H a vs) : SqT K H' a vs := by
  rcases h with (h | ⟨o, h⟩) | h
  · exact .inl (.inl (E.keep a _ h (fun ps z => nomatch z) fun z => by
      obtain ⟨u, e, q⟩ := R.mem z
      rw [h] at e
      cases e
      exact q.elim))
  · exact .inl (.inr ⟨o, E.keep a _ h (fun ps z => nomatch z) fun z => by
      obtain ⟨u, e, q⟩ := R.mem z
      rw [h] at e
      cases e
      exact q.elim⟩)
  · exact .inr h
mutual
theorem DV.mono (E : Ext ι S H ι' S' H') (R : Rep W ι S H) : ∀ (d : D) (v : V), DV W ι H d v → DV W ι' H' d v
  | .non, _, h => h
  | .bl _, _, h => h
  | .int _, _, h => h
  | .str _, _, h => h
  | .fn _, _, h => h
  | .lam _ _, _, h => h
  | .exn _, _, ⟨hc, a, oe, e, h1⟩ => ⟨hc, a, oe, e, E.keep a _ h1 (fun ps z => nomatch z) fun z => (by
      obtain ⟨u, e, q⟩ := R.mem z
      rw [h1] at e
      cases e
      exact q.elim)⟩
  | .exc _ f x, _, ⟨hc, a, d, vx, oe, od, e, h1, h2, q⟩ => ⟨hc, a, d, vx, oe, od, e, E.keep a _ h1 (fun ps z => nomatch z) fun z => (by
      obtain ⟨u, e, q⟩ := R.mem z
      rw [h1] at e
      cases e
      exact q.elim), E.keep d _ h2 (fun ps z => nomatch z) fun z => (by
      obtain ⟨u, e, q⟩ := R.mem z
      rw [h2] at e
      cases e
      exact q.elim), DV.mono E R x vx q⟩
  | .ref _, _, ⟨a, e, h⟩ => ⟨a, e, E.get h⟩
  | .tup xs, _, ⟨a, vs, e, h, q⟩ => ⟨a, vs, e, E.tup R h, DVs.mono E R xs vs q⟩
  | .frl xs, _, ⟨a, vs, e, h, q⟩ => ⟨a, vs, e, by
      rcases h with ⟨o, h⟩ | h
      · exact .inl ⟨o, E.keep a _ h (fun ps z => nomatch z) fun z => by
          obtain ⟨u, e, q⟩ := R.mem z
          rw [h] at e
          cases e
          exact q.elim⟩
      · exact .inr h, DVs.mono E R xs vs q⟩
theorem DVs.mono (E : Ext ι S H ι' S' H') (R : Rep W ι S H) : ∀ (ds : List D) (vs : List V), DVs W ι H ds vs → DVs W ι' H' ds vs
  | [], _, h => h
  | d :: ds, _, ⟨v, r, e, h, q⟩ => ⟨v, r, e, DV.mono E R d v h, DVs.mono E R ds r q⟩
end
theorem Paired.imp {α β : Type} {F G : α → β → Prop} (f : ∀ a b, F a b → G a b) : ∀ {l : List α} {m : List β}, Paired F l m → Paired G l m
  | _, _, .nil => .nil
  | _, _, .cons h t => .cons (f _ _ h) (Paired.imp f t)
theorem KVr.mono (E : Ext ι S H ι' S' H') (R : Rep W ι S H) {κ : Type} {a : List (κ × D)} {b : List (κ × V)} (h : KVr W ι H a b) : KVr W ι' H' a b :=
  Paired.imp (fun p q z => ⟨z.1, DV.mono E R _ _ z.2⟩) h
theorem DTr.mono (E : Ext ι S H ι' S' H') (R : Rep W ι S H) {a : List (List Ky × D)} {b : List (List Key × Addr × Value)} (h : DTr W ι H a b) : DTr W ι' H' a b :=
  Paired.imp (fun p q z => ⟨z.1, E.tup R z.2.1, let ⟨v, r, d⟩ := z.2.2; ⟨v, r, DV.mono E R _ _ d⟩⟩) h
theorem OV.mono (E : Ext ι S H ι' S' H') (R : Rep W ι S H) {a : Addr} {o : Ob} (h : OV W ι H a o) (e : H' a = H a) : OV W ι' H' a o := by
  cases o with
  | lst ds => obtain ⟨vs, q, r⟩ := h; exact ⟨vs, e.trans q, DVs.mono E R _ _ r⟩
  | fro ds => obtain ⟨vs, q, r⟩ := h; exact ⟨vs, e.trans q, DVs.mono E R _ _ r⟩
  | frk kvs => obtain ⟨o, vs, q, r⟩ := h; exact ⟨o, vs, e.trans q, Paired.imp (fun p q z => ⟨z.1, DV.mono E R _ _ z.2⟩) r⟩
  | dk kvs => obtain ⟨vs, q, r⟩ := h; exact ⟨vs, e.trans q, KVr.mono E R r⟩
  | dt kvs => obtain ⟨P, xs, q, r, z⟩ := h; exact ⟨P, xs, e.trans q, DTr.mono E R r, z⟩
  | ins c fs => obtain ⟨hc, dx, gs, q, r⟩ := h; exact ⟨hc, dx, gs, e.trans q, KVr.mono E R r⟩
theorem Tabs.own {T : List (Addr × Str)} (h : LamX.Tabs T H) (k : ∀ b o, H b = some o → ¬ Own o → H' b = some o) : LamX.Tabs T H' := fun p hp => by
  obtain ⟨ps, h1, h2, h3⟩ := h p hp
  refine ⟨ps, k _ _ h1 id, h2, fun pos cv hc => ?_⟩
  obtain ⟨c, e1, e2⟩ := h3 pos cv hc
  exact ⟨c, e1, k _ _ e2 fun ⟨P, w, a, xs, h, z, _⟩ => dtF_code P w a c p.2 xs z.symm⟩
/-- a new tracked thing that is no store's -/
theorem Rep.put (R : Rep W ι S H) {p : Addr} (hp : H p = none) (u : HO) : Rep W ι S (upd H p u) ∧ Ext ι S H ι S (upd H p u) := by
  have hf := R.fresh hp
  have E : Ext ι S H ι S (upd H p u) := ⟨⟨[], by simp, by simp⟩, fun a o h _ _ => by rw [upd_ne (ne_of_none h hp)]; exact h, fun _ _ => rfl⟩
  refine ⟨⟨R.len, R.nd, fun n a o h1 h2 => OV.mono E R (R.ob n a o h1 h2) (upd_ne ?_), Tabs.own R.tab fun b o h _ => by rw [upd_ne (ne_of_none h hp)]; exact h⟩, E⟩
  rintro rfl
  exact hf (List.mem_iff_getElem?.mpr ⟨n, h1⟩)
/-- a new object of the store -/
theorem Rep.alloc (R : Rep W ι S H) {p : Addr} (hp : H p = none) {u : HO} {o : Ob} (h : OV W (ι ++ [p]) (upd H p u) p o) :
    Rep W (ι ++ [p]) (S ++ [o]) (upd H p u) ∧ Ext ι S H (ι ++ [p]) (S ++ [o]) (upd H p u) := by
  have hf := R.fresh hp
  have E : Ext ι S H (ι ++ [p]) (S ++ [o]) (upd H p u) := by
    refine ⟨⟨[p], rfl, fun a ha o ho => ?_⟩, fun a o h _ _ => by rw [upd_ne (ne_of_none h hp)]; exact h, fun n h => ?_⟩
    · have e : a = p := by simpa using ha
      rw [e, hp] at ho
      cases ho
    · by_cases hn : n < S.length
      · rw [List.getElem?_append_left hn]
      · rw [List.getElem?_eq_none (by omega)] at h
        exact h.elim
  refine ⟨⟨by simp [R.len], ?_, fun n a o' h1 h2 => ?_, Tabs.own R.tab fun b o h _ => by rw [upd_ne (ne_of_none h hp)]; exact h⟩, E⟩
  · rw [List.nodup_append]
    refine ⟨R.nd, by simp, fun a ha b hb => ?_⟩
    have e : b = p := by simpa using hb
    rw [e]
    rintro rfl
    exact hf ha
  · by_cases hn : n < ι.length
    · rw [List.getElem?_append_left hn] at h1
      rw [List.getElem?_append_left (by rw [← R.len]; exact hn)] at h2
      refine OV.mono E R (R.ob n a o' h1 h2) (upd_ne ?_)
      rintro rfl
      exact hf (List.mem_iff_getElem?.mpr ⟨n, h1⟩)
    · have e : n = ι.length := by
        have := (List.getElem?_eq_some_iff.mp h1).1
        simp at this
        omega
      subst e
      rw [List.getElem?_append_right (Nat.le_refl _)] at h1
      rw [R.len, List.getElem?_append_right (Nat.le_refl _)] at h2
      simp at h1 h2
      subst h1 h2
      exact h
/-- an object of the store changed -/
theorem Rep.write (R : Rep W ι S H) {n : Nat} {a : Addr} {o : Ob} {u : HO} (hn : ι[n]? = some a) (hz : ¬ Fz S[n]?) (h : OV W ι (upd H a u) a o) :
    Rep W ι (S.set n o) (upd H a u) ∧ Ext ι S H ι (S.set n o) (upd H a u) := by
  have uniq : ∀ m : Nat, ι[m]? = some a → m = n := fun m hm => by
    obtain ⟨h1, e1⟩ := List.getElem?_eq_some_iff.mp hm
    obtain ⟨h2, e2⟩ := List.getElem?_eq_some_iff.mp hn
    exact (List.getElem_inj R.nd).mp (e1.trans e2.symm)
  have hl : n < S.length := by
    rw [← R.len]
    exact (List.getElem?_eq_some_iff.mp hn).1
  have E : Ext ι S H ι (S.set n o) (upd H a u) := by
    refine ⟨⟨[], by simp, by simp⟩, fun b o h _ k => ?_, fun m h => ?_⟩
    · rw [upd_ne ?_]
      · exact h
      · rintro rfl
        obtain ⟨m, h1, h2⟩ := k (List.mem_iff_getElem?.mpr ⟨n, hn⟩)
        rw [uniq m h1] at h2
        exact hz h2
    · rw [List.getElem?_set_ne]
      rintro rfl
      exact hz h
  refine ⟨⟨by simp [R.len], R.nd, fun m b o' h1 h2 => ?_, Tabs.own R.tab fun b o hbo no => by
    rw [upd_ne ?_]
    · exact hbo
    · rintro rfl
      obtain ⟨u, e, q⟩ := R.mem (List.mem_iff_getElem?.mpr ⟨n, hn⟩)
      rw [hbo] at e
      cases e
      exact no q⟩, E⟩
  by_cases hm : m = n
  · subst hm
    rw [hn] at h1
    cases h1
    rw [List.getElem?_set_self hl] at h2
    cases h2
    exact h
  · rw [List.getElem?_set_ne (Ne.symm hm)] at h2
    refine OV.mono E R (R.ob m b o' h1 h2) (upd_ne ?_)
    rintro rfl
    exact hm (uniq m h1)
theorem DVs.length : ∀ {ds : List D} {vs : List V}, DVs W ι H ds vs → ds.length = vs.length
  | [], _, h => by rw [show _ = [] from h]; rfl
  | d :: ds, _, ⟨v, r, e, _, q⟩ => by rw [e, List.length_cons, List.length_cons, DVs.length q]
theorem DVs.get : ∀ {ds : List D} {vs : List V} {i : Nat} {d : D}, DVs W ι H ds vs → ds[i]? = some d → ∃ v, vs[i]? = some v ∧ DV W ι H d v
  | [], _, _, _, _, h => by simp at h
  | d :: ds, _, 0, x, ⟨v, r, e, h, q⟩, hx => by
    subst e
    simp at hx
    subst hx
    exact ⟨v, rfl, h⟩
  | d :: ds, _, i + 1, x, ⟨v, r, e, h, q⟩, hx => by
    subst e
    obtain ⟨y, h1, h2⟩ := DVs.get q (show ds[i]? = some x by simpa using hx)
    exact ⟨y, by simpa using h1, h2⟩
theorem DVs.append : ∀ {ds es : List D} {vs ws : List V}, DVs W ι H ds vs → DVs W ι H es ws → DVs W ι H (ds ++ es) (vs ++ ws)
  | [], _, _, _, h, k => by rw [show _ = [] from h]; exact k
  | d :: ds, _, _, _, ⟨v, r, e, h, q⟩, k => by
    subst e
    exact ⟨v, r ++ _, rfl, h, DVs.append q k⟩
theorem DVs.set {x : D} {y : V} (hx : DV W ι H x y) : ∀ {ds : List D} {vs : List V} (i : Nat), DVs W ι H ds vs → DVs W ι H (ds.set i x) (vs.set i y)
  | [], _, _, h => by rw [show _ = [] from h]; rfl
  | d :: ds, _, 0, ⟨v, r, e, h, q⟩ => by
    subst e
    exact ⟨y, r, rfl, hx, q⟩
  | d :: ds, _, i + 1, ⟨v, r, e, h, q⟩ => by
    subst e
    exact ⟨v, _, rfl, h, DVs.set hx i q⟩
theorem DVs.take : ∀ {ds : List D} {vs : List V} (n : Nat), DVs W ι H ds vs → DVs W ι H (ds.take n) (vs.take n)
  | _, _, 0, _ => by simp [DVs]
  | [], _, n + 1, h => by rw [show _ = [] from h]; simp [DVs]
  | d :: ds, _, n + 1, ⟨v, r, e, h, q⟩ => by
    subst e
    exact ⟨v, _, rfl, h, DVs.take n q⟩
theorem DVs.drop : ∀ {ds : List D} {vs : List V} (n : Nat), DVs W ι H ds vs → DVs W ι H (ds.drop n) (vs.drop n)
  | _, _, 0, h => h
  | [], _, n + 1, h => by rw [show _ = [] from h]; simp [DVs]
  | d :: ds, _, n + 1, ⟨v, r, e, h, q⟩ => by
    subst e
    exact DVs.drop n q
theorem DVs.eraseIdx : ∀ {ds : List D} {vs : List V} (n : Nat), DVs W ι H ds vs → DVs W ι H (ds.eraseIdx n) (vs.eraseIdx n)
  | [], _, _, h => by rw [show _ = [] from h]; simp [DVs]
  | d :: ds, _, 0, ⟨v, r, e, h, q⟩ => by
    subst e
    exact q
  | d :: ds, _, n + 1, ⟨v, r, e, h, q⟩ => by
    subst e
    exact ⟨v, _, rfl, h, DVs.eraseIdx n q⟩
theorem DVs.rev : ∀ {ds : List D} {vs : List V}, DVs W ι H ds vs → DVs W ι H ds.reverse vs.reverse
  | [], _, h => by rw [show _ = [] from h]; simp [DVs]
  | d :: ds, _, ⟨v, r, e, h, q⟩ => by
    subst e
    rw [List.reverse_cons, List.reverse_cons]
    exact DVs.append (DVs.rev q) ⟨v, [], rfl, h, rfl⟩
theorem DVs.flat {ds : List D} {vs : List V} (h : DVs W ι H ds vs) : ∀ k : Nat, DVs W ι H (List.replicate k ds).flatten (List.replicate k vs).flatten
  | 0 => by simp [DVs]
  | k + 1 => by
    rw [List.replicate_succ, List.replicate_succ, List.flatten_cons, List.flatten_cons]
    exact DVs.append h (DVs.flat h k)
end
end PC
end
section
set_option Elab.async false
set_option linter.all false
set_option maxRecDepth 100000
set_option maxHeartbeats 1000000
/-! PC: == of data, whatever signs its texts have. -/
namespace PC
open PySem L2 SeqAt

mutual
theorem eqv_same : ∀ p : PyData, noD p = true → PyData.eqv p p = true
  | .none, _ => rfl
  | .bool b, _ => by simp [PyData.eqv]
  | .int b, _ => by simp [PyData.eqv]
  | .str b, _ => by simp [PyData.eqv]
  | .list xs, h => (show PyData.eqvAll xs xs = true from eqvs_same xs h)
  | .tuple xs, h => (show PyData.eqvAll xs xs = true from eqvs_same xs h)
  | .dict _, h => nomatch h
theorem eqvs_same : ∀ ps : List PyData, noDs ps = true → PyData.eqvAll ps ps = true
  | [], _ => rfl
  | p :: r, h => by
    obtain ⟨h1, h2⟩ := Bool.and_eq_true_iff.mp (show (noD p && noDs r) = true from h)
    show (PyData.eqv p p && PyData.eqvAll r r) = true
    rw [eqv_same p h1, eqvs_same r h2]
    rfl
end
mutual
theorem reads_one {h : Heap} : ∀ (p q : PyData) (a : Value) (as bs : List Addr), noD p = true → Reads h a p as → Reads h a q bs → p = q
  | .none, _, _, _, _, _, r, r' => by cases r; cases r'; rfl
  | .bool _, _, _, _, _, _, r, r' => by cases r; cases r'; rfl
  | .int _, _, _, _, _, _, r, r' => by cases r; cases r'; rfl
  | .str _, _, _, _, _, _, r, r' => by cases r; cases r'; rfl
  | .list xs, _, _, _, _, n, r, r' => by
    cases r with
    | list h1 h2 h3 h4 =>
      cases r' with
      | list k1 k2 k3 k4 =>
        rw [h1] at k1; cases k1
        rw [h3] at k3; cases k3
        exact congrArg PyData.list (reads_ones xs _ _ _ _ n h4 k4)
      | tuple k1 k2 k3 k4 =>
        rw [h1] at k1; cases k1
        rw [h2] at k2; exact absurd k2 (by decide)
      | dict k1 k2 k3 k4 k5 =>
        rw [h1] at k1; cases k1
        rw [h2] at k2; exact absurd k2 (by decide)
  | .tuple xs, _, _, _, _, n, r, r' => by
    cases r with
    | tuple h1 h2 h3 h4 =>
      cases r' with
      | tuple k1 k2 k3 k4 =>
        rw [h1] at k1; cases k1
        rw [h3] at k3; cases k3
        exact congrArg PyData.tuple (reads_ones xs _ _ _ _ n h4 k4)
      | list k1 k2 k3 k4 =>
        rw [h1] at k1; cases k1
        rw [h2] at k2; exact absurd k2 (by decide)
      | dict k1 k2 k3 k4 k5 =>
        rw [h1] at k1; cases k1
        rw [h2] at k2; exact absurd k2 (by decide)
  | .dict _, _, _, _, _, n, _, _ => nomatch n
theorem reads_ones {h : Heap} : ∀ (ps qs : List PyData) (us : List Value) (as bs : List Addr), noDs ps = true → ReadsAll h us ps as → ReadsAll h us qs bs → ps = qs
  | [], _, _, _, _, _, r, r' => by cases r; cases r'; rfl
  | p :: r0, _, _, _, _, n, r, r' => by
    obtain ⟨h1, h2⟩ := Bool.and_eq_true_iff.mp (show (noD p && noDs r0) = true from n)
    cases r with
    | cons a b =>
      cases r' with
      | cons c d => rw [reads_one p _ _ _ _ h1 a c, reads_ones r0 _ _ _ _ h2 b d]
end
theorem alls_len {h : Heap} : ∀ (ps : List PyData) (us : List Value) (as : List Addr), ReadsAll h us ps as → us.length = ps.length
  | [], _, _, r => by cases r; rfl
  | p :: r0, _, _, r => by
    cases r with
    | cons a b => rw [List.length_cons, List.length_cons, alls_len r0 _ _ b]
mutual
theorem eqR : ∀ (p q : PyData) (A : Around) (s : Shared) (a b : Value) (as bs : List Addr), Reads s.heap a p as → Reads s.heap b q bs → noD p = true → noD q = true →
    A.units + p.depth < cLine → EqAt A s a b (p.eqv q)
  | .none, q, A, s, a, b, as, bs, ra, rb, n, n', hu => by
    have hu0 : A.units < cLine := by omega
    cases ra
    cases rb with
    | none => exact EqAt.same _
    | bool y => exact EqAt.none_bool y
    | int y u => exact EqAt.none_int y u
    | str y u => exact EqAt.none_str y u
    | list k1 k2 k3 _ => exact EqAt.none_list ⟨_, k1, k2, _, k3⟩ hu0
    | tuple k1 k2 k3 _ => exact EqAt.none_tuple ⟨_, k1, k2, _, k3⟩ hu0
    | dict => exact nomatch n'
  | .bool x, q, A, s, a, b, as, bs, ra, rb, n, n', hu => by
    have hu0 : A.units < cLine := by omega
    cases ra
    cases rb with
    | none => exact EqAt.bool_none x
    | bool y => exact EqAt.bool_bool x y
    | int y u => exact EqAt.bool_int x y u
    | str y u => exact EqAt.bool_str x y u
    | list k1 k2 k3 _ => exact EqAt.bool_list x ⟨_, k1, k2, _, k3⟩ hu0
    | tuple k1 k2 k3 _ => exact EqAt.bool_tuple x ⟨_, k1, k2, _, k3⟩ hu0
    | dict => exact nomatch n'
  | .int x, q, A, s, a, b, as, bs, ra, rb, n, n', hu => by
    have hu0 : A.units < cLine := by omega
    cases ra with
    | int _ t =>
    cases rb with
    | none => exact EqAt.int_none x t
    | bool y => exact EqAt.int_bool x t y
    | int y u => exact EqAt.int_int x t y u
    | str y u => exact EqAt.int_str x t y u
    | list k1 k2 k3 _ => exact EqAt.int_list x t ⟨_, k1, k2, _, k3⟩ hu0
    | tuple k1 k2 k3 _ => exact EqAt.int_tuple x t ⟨_, k1, k2, _, k3⟩ hu0
    | dict => exact nomatch n'
  | .str x, q, A, s, a, b, as, bs, ra, rb, n, n', hu => by
    have hu0 : A.units < cLine := by omega
    cases ra with
    | str _ t =>
    cases rb with
    | none => exact EqAt.str_none x t
    | bool y => exact EqAt.str_bool x t y
    | int y u => exact EqAt.str_int x t y u
    | str y u => exact EqAt.str_str x t y u
    | list k1 k2 k3 _ => exact EqAt.str_list x t ⟨_, k1, k2, _, k3⟩ hu0
    | tuple k1 k2 k3 _ => exact EqAt.str_tuple x t ⟨_, k1, k2, _, k3⟩ hu0
    | dict => exact nomatch n'
  | .list xs, q, A, s, a, b, as, bs, ra, rb, n, n', hu => by
    have hd : (PyData.list xs).depth = PyData.depthAll xs + 1 := rfl
    have hu0 : A.units < cLine := by omega
    cases ra with
    | @list l o vs m _ as₁ h1 h2 h3 h4 =>
    have hl : s.heap.IsList l vs := ⟨_, h1, h2, _, h3⟩
    cases rb with
    | none => exact EqAt.list_none hl hu0
    | bool y => exact EqAt.list_bool y hl hu0
    | int y u => exact EqAt.list_int y u hl hu0
    | str y u => exact EqAt.list_str y u hl hu0
    | tuple k1 k2 k3 _ => exact EqAt.list_tuple hl ⟨_, k1, k2, _, k3⟩ hu0
    | dict => exact nomatch n'
    | @list l' o' vs' m' ys bs₁ k1 k2 k3 k4 =>
      have hl' : s.heap.IsList l' vs' := ⟨_, k1, k2, _, k3⟩
      have n1 : vs.size = xs.length := by rw [← alls_len _ _ _ h4]; simp
      have n2 : vs'.size = ys.length := by rw [← alls_len _ _ _ k4]; simp
      show EqAt A s (.ref l) (.ref l') (PyData.eqvAll xs ys)
      by_cases hll : l = l'
      · subst hll
        have e := reads_one (.list xs) (.list ys) _ _ _ n (.list h1 h2 h3 h4) (.list k1 k2 k3 k4)
        cases e
        rw [eqvs_same xs n]
        exact EqAt.same _
      · by_cases hz : xs.length = ys.length
        · rw [← eqvAll_same_length hz, ← n1]
          refine EqAt.of_refs hll (RcAt.lists hl hl' (by rw [n1, n2, hz]) hu0 fun j j1 j2 => ?_)
          have z := eqRs xs ys A.in1 s vs.toList vs'.toList _ _ h4 k4 n n' (by show A.units + 1 + _ < _; omega) j (by simpa using j1) (by simpa using j2)
          simpa using z
        · rw [eqvAll_other_length hz]
          exact EqAt.of_refs hll (RcAt.lists_lengths hl hl' (by rw [n1, n2]; simpa using hz) hu0)
  | .tuple xs, q, A, s, a, b, as, bs, ra, rb, n, n', hu => by
    have hd : (PyData.tuple xs).depth = PyData.depthAll xs + 1 := rfl
    have hu0 : A.units < cLine := by omega
    cases ra with
    | @tuple l o vs m _ as₁ h1 h2 h3 h4 =>
    have hl : s.heap.IsTuple l vs := ⟨_, h1, h2, _, h3⟩
    cases rb with
    | none => exact EqAt.tuple_none hl hu0
    | bool y => exact EqAt.tuple_bool y hl hu0
    | int y u => exact EqAt.tuple_int y u hl hu0
    | str y u => exact EqAt.tuple_str y u hl hu0
    | list k1 k2 k3 _ => exact EqAt.tuple_list hl ⟨_, k1, k2, _, k3⟩ hu0
    | dict => exact nomatch n'
    | @tuple l' o' vs' m' ys bs₁ k1 k2 k3 k4 =>
      have hl' : s.heap.IsTuple l' vs' := ⟨_, k1, k2, _, k3⟩
      have n1 : vs.size = xs.length := by rw [← alls_len _ _ _ h4]; simp
      have n2 : vs'.size = ys.length := by rw [← alls_len _ _ _ k4]; simp
      show EqAt A s (.ref l) (.ref l') (PyData.eqvAll xs ys)
      by_cases hll : l = l'
      · subst hll
        have e := reads_one (.tuple xs) (.tuple ys) _ _ _ n (.tuple h1 h2 h3 h4) (.tuple k1 k2 k3 k4)
        cases e
        rw [eqvs_same xs n]
        exact EqAt.same _
      · rw [← eqvAll_eq xs ys, ← n1, ← n2]
        refine EqAt.of_refs hll (RcAt.tuples hl hl' hu0 fun j j1 j2 => ?_)
        have z := eqRs xs ys A.in1 s vs.toList vs'.toList _ _ h4 k4 n n' (by show A.units + 1 + _ < _; omega) j (by simpa using j1) (by simpa using j2)
        simpa using z
  | .dict _, _, _, _, _, _, _, _, _, _, n, _, _ => nomatch n
theorem eqRs : ∀ (ps qs : List PyData) (A : Around) (s : Shared) (us ws : List Value) (as bs : List Addr), ReadsAll s.heap us ps as → ReadsAll s.heap ws qs bs → noDs ps = true → noDs qs = true →
    A.units + PyData.depthAll ps < cLine → ∀ j (h1 : j < us.length) (h2 : j < ws.length), EqAt A s us[j] ws[j] (pairEq ps qs j)
  | [], _, _, _, _, _, _, _, ra, _, _, _, _, j, h1, _ => by cases ra; exact absurd h1 (Nat.not_lt_zero _)
  | _ :: _, [], _, _, _, _, _, _, _, rb, _, _, _, j, _, h2 => by cases rb; exact absurd h2 (Nat.not_lt_zero _)
  | p :: ps, q :: qs, A, s, _, _, _, _, ra, rb, n, n', hu, j, h1, h2 => by
    obtain ⟨a1, a2⟩ := Bool.and_eq_true_iff.mp (show (noD p && noDs ps) = true from n)
    obtain ⟨b1, b2⟩ := Bool.and_eq_true_iff.mp (show (noD q && noDs qs) = true from n')
    have hd : PyData.depthAll (p :: ps) = max p.depth (PyData.depthAll ps) := rfl
    have m1 : p.depth ≤ PyData.depthAll (p :: ps) := by rw [hd]; exact Nat.le_max_left _ _
    have m2 : PyData.depthAll ps ≤ PyData.depthAll (p :: ps) := by rw [hd]; exact Nat.le_max_right _ _
    cases ra with
    | cons r rs =>
      cases rb with
      | cons r' rs' =>
        cases j with
        | zero => exact eqR p q A s _ _ _ _ r r' a1 b1 (by omega)
        | succ j => exact eqRs ps qs A s _ _ _ _ rs rs' a2 b2 (by omega) j (Nat.lt_of_succ_lt_succ h1) (Nat.lt_of_succ_lt_succ h2)
end
/-! printed by genrc.py -/
theorem rcR {A : Around} {s : Shared} {p q : PyData} {a b : Value} {as bs : List Addr} (ra : Reads s.heap a p as) (rb : Reads s.heap b q bs) (n : noD p = true) (n2 : noD q = true)
    (hu : A.units + p.depth < cLine) : RcAt A s a b (p.eqv q) := by
  have hu0 : A.units < cLine := by omega
  cases ra with
  | none =>
    cases rb with
    | none => exact RcAt.none_none
    | bool y => exact RcAt.none_bool  y
    | int y u => exact RcAt.none_int  y u
    | str y u => exact RcAt.none_str  y u
    | list k1 k2 k3 _ => exact RcAt.none_list  ⟨_, k1, k2, _, k3⟩ hu0
    | tuple k1 k2 k3 _ => exact RcAt.none_tuple  ⟨_, k1, k2, _, k3⟩ hu0
    | dict => exact nomatch n2
  | bool x =>
    cases rb with
    | none => exact RcAt.bool_none x 
    | bool y => exact RcAt.bool_bool x y
    | int y u => exact RcAt.bool_int x y u
    | str y u => exact RcAt.bool_str x y u
    | list k1 k2 k3 _ => exact RcAt.bool_list x ⟨_, k1, k2, _, k3⟩ hu0
    | tuple k1 k2 k3 _ => exact RcAt.bool_tuple x ⟨_, k1, k2, _, k3⟩ hu0
    | dict => exact nomatch n2
  | int x t =>
    cases rb with
    | none => exact RcAt.int_none x t 
    | bool y => exact RcAt.int_bool x t y
    | int y u => exact RcAt.int_int x t y u
    | str y u => exact RcAt.int_str x t y u
    | list k1 k2 k3 _ => exact RcAt.int_list x t ⟨_, k1, k2, _, k3⟩ hu0
    | tuple k1 k2 k3 _ => exact RcAt.int_tuple x t ⟨_, k1, k2, _, k3⟩ hu0
    | dict => exact nomatch n2
  | str x t =>
    cases rb with
    | none => exact RcAt.str_none x t 
    | bool y => exact RcAt.str_bool x t y
    | int y u => exact RcAt.str_int x t y u
    | str y u => exact RcAt.str_str x t y u
    | list k1 k2 k3 _ => exact RcAt.str_list x t ⟨_, k1, k2, _, k3⟩ hu0
    | tuple k1 k2 k3 _ => exact RcAt.str_tuple x t ⟨_, k1, k2, _, k3⟩ hu0
    | dict => exact nomatch n2
  | @list l o vs m xs as₁ h1 h2 h3 h4 =>
    have hd : (PyData.list xs).depth = PyData.depthAll xs + 1 := rfl
    have hl : s.heap.IsList l vs := ⟨_, h1, h2, _, h3⟩
    cases rb with
    | none => exact RcAt.list_none  hl hu0
    | bool y => exact RcAt.list_bool y hl hu0
    | int y u => exact RcAt.list_int y u hl hu0
    | str y u => exact RcAt.list_str y u hl hu0
    | tuple k1 k2 k3 _ => exact RcAt.list_tuple hl ⟨_, k1, k2, _, k3⟩ hu0
    | dict => exact nomatch n2
    | @list l2 o2 ws m2 ys bs₁ k1 k2 k3 k4 =>
      have hl2 : s.heap.IsList l2 ws := ⟨_, k1, k2, _, k3⟩
      have n1 : vs.size = xs.length := by rw [← alls_len _ _ _ h4, Array.length_toList]
      have m1 : ws.size = ys.length := by rw [← alls_len _ _ _ k4, Array.length_toList]
      have he : ∀ j (j1 : j < vs.size) (j2 : j < ws.size), EqAt A.in1 s vs[j] ws[j] (pairEq xs ys j) := fun j j1 j2 => by
        have z := eqRs xs ys A.in1 s vs.toList ws.toList _ _ h4 k4 n n2 (by show A.units + 1 + _ < _; omega) j (by simpa using j1) (by simpa using j2)
        simpa using z
      show RcAt A s (.ref l) (.ref l2) (PyData.eqvAll xs ys)
      by_cases hz : xs.length = ys.length
      · rw [← eqvAll_same_length hz, ← n1]
        exact RcAt.lists hl hl2 (by rw [n1, m1, hz]) hu0 he
      · rw [eqvAll_other_length hz]
        exact RcAt.lists_lengths hl hl2 (by rw [n1, m1]; simpa using hz) hu0
  | @tuple l o vs m xs as₁ h1 h2 h3 h4 =>
    have hd : (PyData.tuple xs).depth = PyData.depthAll xs + 1 := rfl
    have hl : s.heap.IsTuple l vs := ⟨_, h1, h2, _, h3⟩
    cases rb with
    | none => exact RcAt.tuple_none  hl hu0
    | bool y => exact RcAt.tuple_bool y hl hu0
    | int y u => exact RcAt.tuple_int y u hl hu0
    | str y u => exact RcAt.tuple_str y u hl hu0
    | list k1 k2 k3 _ => exact RcAt.tuple_list hl ⟨_, k1, k2, _, k3⟩ hu0
    | dict => exact nomatch n2
    | @tuple l2 o2 ws m2 ys bs₁ k1 k2 k3 k4 =>
      have hl2 : s.heap.IsTuple l2 ws := ⟨_, k1, k2, _, k3⟩
      have n1 : vs.size = xs.length := by rw [← alls_len _ _ _ h4, Array.length_toList]
      have m1 : ws.size = ys.length := by rw [← alls_len _ _ _ k4, Array.length_toList]
      have he : ∀ j (j1 : j < vs.size) (j2 : j < ws.size), EqAt A.in1 s vs[j] ws[j] (pairEq xs ys j) := fun j j1 j2 => by
        have z := eqRs xs ys A.in1 s vs.toList ws.toList _ _ h4 k4 n n2 (by show A.units + 1 + _ < _; omega) j (by simpa using j1) (by simpa using j2)
        simpa using z
      show RcAt A s (.ref l) (.ref l2) (PyData.eqvAll xs ys)
      rw [← eqvAll_eq xs ys, ← n1, ← m1]
      exact RcAt.tuples hl hl2 hu0 he
  | dict => exact nomatch n
theorem neR {A : Around} {s : Shared} {p q : PyData} {a b : Value} {as bs : List Addr} (ra : Reads s.heap a p as) (rb : Reads s.heap b q bs) (n : noD p = true) (n2 : noD q = true)
    (hu : A.units + p.depth < cLine) : RcNeAt A s a b (!(p.eqv q)) := by
  have hu0 : A.units < cLine := by omega
  cases ra with
  | none =>
    cases rb with
    | none => exact RcNeAt.none_none
    | bool y => exact RcNeAt.none_bool  y
    | int y u => exact RcNeAt.none_int  y u
    | str y u => exact RcNeAt.none_str  y u
    | list k1 k2 k3 _ => exact RcNeAt.none_list  ⟨_, k1, k2, _, k3⟩ hu0
    | tuple k1 k2 k3 _ => exact RcNeAt.none_tuple  ⟨_, k1, k2, _, k3⟩ hu0
    | dict => exact nomatch n2
  | bool x =>
    cases rb with
    | none => exact RcNeAt.bool_none x 
    | bool y => exact RcNeAt.bool_bool x y
    | int y u => exact RcNeAt.bool_int x y u
    | str y u => exact RcNeAt.bool_str x y u
    | list k1 k2 k3 _ => exact RcNeAt.bool_list x ⟨_, k1, k2, _, k3⟩ hu0
    | tuple k1 k2 k3 _ => exact RcNeAt.bool_tuple x ⟨_, k1, k2, _, k3⟩ hu0
    | dict => exact nomatch n2
  | int x t =>
    cases rb with
    | none => exact RcNeAt.int_none x t 
    | bool y => exact RcNeAt.int_bool x t y
    | int y u => exact RcNeAt.int_int x t y u
    | str y u => exact RcNeAt.int_str x t y u
    | list k1 k2 k3 _ => exact RcNeAt.int_list x t ⟨_, k1, k2, _, k3⟩ hu0
    | tuple k1 k2 k3 _ => exact RcNeAt.int_tuple x t ⟨_, k1, k2, _, k3⟩ hu0
    | dict => exact nomatch n2
  | str x t =>
    cases rb with
    | none => exact RcNeAt.str_none x t 
    | bool y => exact RcNeAt.str_bool x t y
    | int y u => exact RcNeAt.str_int x t y u
    | str y u => exact RcNeAt.str_str x t y u
    | list k1 k2 k3 _ => exact RcNeAt.str_list x t ⟨_, k1, k2, _, k3⟩ hu0
    | tuple k1 k2 k3 _ => exact RcNeAt.str_tuple x t ⟨_, k1, k2, _, k3⟩ hu0
    | dict => exact nomatch n2
  | @list l o vs m xs as₁ h1 h2 h3 h4 =>
    have hd : (PyData.list xs).depth = PyData.depthAll xs + 1 := rfl
    have hl : s.heap.IsList l vs := ⟨_, h1, h2, _, h3⟩
    cases rb with
    | none => exact RcNeAt.list_none  hl hu0
    | bool y => exact RcNeAt.list_bool y hl hu0
    | int y u => exact RcNeAt.list_int y u hl hu0
    | str y u => exact RcNeAt.list_str y u hl hu0
    | tuple k1 k2 k3 _ => exact RcNeAt.list_tuple hl ⟨_, k1, k2, _, k3⟩ hu0
    | dict => exact nomatch n2
    | @list l2 o2 ws m2 ys bs₁ k1 k2 k3 k4 =>
      have hl2 : s.heap.IsList l2 ws := ⟨_, k1, k2, _, k3⟩
      have n1 : vs.size = xs.length := by rw [← alls_len _ _ _ h4, Array.length_toList]
      have m1 : ws.size = ys.length := by rw [← alls_len _ _ _ k4, Array.length_toList]
      have he : ∀ j (j1 : j < vs.size) (j2 : j < ws.size), EqAt A.in1 s vs[j] ws[j] (pairEq xs ys j) := fun j j1 j2 => by
        have z := eqRs xs ys A.in1 s vs.toList ws.toList _ _ h4 k4 n n2 (by show A.units + 1 + _ < _; omega) j (by simpa using j1) (by simpa using j2)
        simpa using z
      show RcNeAt A s (.ref l) (.ref l2) (!(PyData.eqvAll xs ys))
      by_cases hz : xs.length = ys.length
      · rw [← eqvAll_same_length hz, ← n1]
        exact RcNeAt.lists hl hl2 (by rw [n1, m1, hz]) hu0 he
      · rw [eqvAll_other_length hz]
        exact RcNeAt.lists_lengths hl hl2 (by rw [n1, m1]; simpa using hz) hu0
  | @tuple l o vs m xs as₁ h1 h2 h3 h4 =>
    have hd : (PyData.tuple xs).depth = PyData.depthAll xs + 1 := rfl
    have hl : s.heap.IsTuple l vs := ⟨_, h1, h2, _, h3⟩
    cases rb with
    | none => exact RcNeAt.tuple_none  hl hu0
    | bool y => exact RcNeAt.tuple_bool y hl hu0
    | int y u => exact RcNeAt.tuple_int y u hl hu0
    | str y u => exact RcNeAt.tuple_str y u hl hu0
    | list k1 k2 k3 _ => exact RcNeAt.tuple_list hl ⟨_, k1, k2, _, k3⟩ hu0
    | dict => exact nomatch n2
    | @tuple l2 o2 ws m2 ys bs₁ k1 k2 k3 k4 =>
      have hl2 : s.heap.IsTuple l2 ws := ⟨_, k1, k2, _, k3⟩
      have n1 : vs.size = xs.length := by rw [← alls_len _ _ _ h4, Array.length_toList]
      have m1 : ws.size = ys.length := by rw [← alls_len _ _ _ k4, Array.length_toList]
      have he : ∀ j (j1 : j < vs.size) (j2 : j < ws.size), EqAt A.in1 s vs[j] ws[j] (pairEq xs ys j) := fun j j1 j2 => by
        have z := eqRs xs ys A.in1 s vs.toList ws.toList _ _ h4 k4 n n2 (by show A.units + 1 + _ < _; omega) j (by simpa using j1) (by simpa using j2)
        simpa using z
      show RcNeAt A s (.ref l) (.ref l2) (!(PyData.eqvAll xs ys))
      rw [← eqvAll_eq xs ys, ← n1, ← m1]
      exact RcNeAt.tuples hl hl2 hu0 he
  | dict => exact nomatch n
end PC
end
section
set_option Elab.async false
set_option linter.all false
set_option maxRecDepth 100000
set_option maxHeartbeats 1000000
/-! PC: what the words do to values, against the model. -/
namespace PC
open PySem L2

theorem line_eq : line = sizeLine := by rw [sizeLine_eq]; rfl
section
variable {W : Wd} {ι ι' : List Addr} {S S' : Sto} {H H' : Hp} {X : Cx} {pins : List (Addr × Obj)} {σ : St} {s : Shared}
/-- items of a list object -/
theorem OV.items {a : Addr} {ds : List D} (h : OV W ι H a (.lst ds) ∨ OV W ι H a (.fro ds)) : ∃ vs, H a = some (.lst vs) ∧ DVs W ι H ds vs := by
  rcases h with h | h <;> exact h
theorem frl_sq {a : Addr} {vs : List V} (h : (∃ o, H a = some (.frz o (.lst vs))) ∨ (∃ (o : Obj) (its : Array Value) (n : Nat), W.K.lookup a = some o ∧ o.cls = .type "list" ∧ o.dict = none ∧ o.data = .seq its n ∧ its.size ≤ sizeLine ∧ Vals vs its.toList)) : SqL W.K H a vs := by
  rcases h with ⟨o, h⟩ | h
  · exact .inl (.inr ⟨o, h⟩)
  · exact .inr h
theorem lst_sq (R : Rep W ι S H) {d : D} {v : V} {xs : List D} (h : lstD d S = some xs) (hv : DV W ι H d v) : ∃ a vs, v = .ref a ∧ SqL W.K H a vs ∧ DVs W ι H xs vs := by
  cases d with
  | frl ys =>
    obtain ⟨a, vs, e, q, r⟩ := hv
    cases (show ys = xs by simpa [lstD] using h)
    exact ⟨a, vs, e, frl_sq q, r⟩
  | ref n =>
    obtain ⟨a, e, hn⟩ := hv
    simp only [lstD] at h
    split at h
    · cases h
      rename_i ho
      obtain ⟨vs, q, r⟩ := OV.items (.inl (R.ob n a _ hn ho))
      exact ⟨a, vs, e, .of q, r⟩
    · cases h
      rename_i ho
      obtain ⟨vs, q, r⟩ := OV.items (.inr (R.ob n a _ hn ho))
      exact ⟨a, vs, e, .of q, r⟩
    · cases h
  | _ => simp [lstD] at h
theorem optMap_cons {α β : Type} {f : α → Option β} {x : α} {xs : List α} {zs : List β} (h : optMap f (x :: xs) = some zs) : ∃ y ys, zs = y :: ys ∧ f x = some y ∧ optMap f xs = some ys := by
  simp only [optMap] at h
  split at h
  · cases h
    rename_i h1 h2
    exact ⟨_, _, rfl, h1, h2⟩
  · cases h
theorem optMap_len {α β : Type} {f : α → Option β} : ∀ {xs : List α} {zs : List β}, optMap f xs = some zs → zs.length = xs.length
  | [], _, h => by cases h; rfl
  | x :: xs, _, h => by
    obtain ⟨y, ys, rfl, _, h2⟩ := optMap_cons h
    rw [List.length_cons, List.length_cons, optMap_len h2]
theorem reads_list {f : D → Option PyData} (hf : ∀ d v u p, f d = some p → DV W ι H d v → RelV v u → ∃ as, Reads s.heap u p as) : ∀ (ds : List D) (vs : List V) (us : List Value) (ps : List PyData),
    optMap f ds = some ps → DVs W ι H ds vs → Vals vs us → ∃ as, ReadsAll s.heap us ps as
  | [], _, _, _, h, hv, hr => by
    cases h
    cases (show _ = [] from hv)
    cases hr
    exact ⟨_, .nil⟩
  | d :: ds, _, _, _, h, ⟨v, r, e, q, t⟩, hr => by
    subst e
    obtain ⟨y, ys, rfl, h1, h2⟩ := optMap_cons h
    cases hr with
    | cons r1 r2 =>
      obtain ⟨as, z1⟩ := hf d v _ _ h1 q r1
      obtain ⟨bs, z2⟩ := reads_list hf ds r _ _ h2 t r2
      exact ⟨_, .cons z1 z2⟩
theorem key_reads {h : Heap} {k : Ky} {u : Value} (e : keyIs k u = true) : Reads h u (kyP k) [] := by
  rcases keyIs_shape e with ⟨i, t, rfl, rfl⟩ | ⟨x, t, rfl, rfl⟩
  · exact .int i t
  · exact .str x t
theorem keys_reads {h : Heap} : ∀ {es : List DictEntry} {kvs : List (Ky × Value)} {P : Program} {w : World}, Pairs (mixKind P w) es kvs → ReadsAll h (es.map (·.key)) (kvs.map fun kv => kyP kv.1) []
  | _, _, _, _, .nil => .nil
  | _, _, _, _, .cons a _ t => ReadsAll.cons (as := []) (bs := []) (key_reads a) (keys_reads t)
theorem pairs_vals : ∀ {es : List DictEntry} {kvs : List (Ky × Value)} {P : Program} {w : World}, Pairs (mixKind P w) es kvs → es.map (·.val) = kvs.map (·.2)
  | _, _, _, _, .nil => rfl
  | _, _, _, _, .cons _ b t => by rw [List.map_cons, List.map_cons, b, pairs_vals t]
theorem kv_keys {κ : Type} : ∀ {a : List (κ × D)} {b : List (κ × V)}, KVr W ι H a b → a.map (·.1) = b.map (·.1)
  | _, _, .nil => rfl
  | _, _, .cons h t => by rw [List.map_cons, List.map_cons, h.1, kv_keys t]
theorem kv_vals {κ : Type} : ∀ {a : List (κ × D)} {b : List (κ × V)}, KVr W ι H a b → DVs W ι H (a.map (·.2)) (b.map (·.2))
  | _, _, .nil => rfl
  | _, _, .cons h t => ⟨_, _, rfl, h.2, kv_vals t⟩
theorem KV_keys {κ : Type} : ∀ {a : List (κ × V)} {b : List (κ × Value)}, KV a b → a.map (·.1) = b.map (·.1)
  | _, _, .nil => rfl
  | _, _, .cons h t => by rw [List.map_cons, List.map_cons, h.1, KV_keys t]
theorem KV_vals {κ : Type} : ∀ {a : List (κ × V)} {b : List (κ × Value)}, KV a b → Vals (a.map (·.2)) (b.map (·.2))
  | _, _, .nil => .nil
  | _, _, .cons h t => .cons h.2 (KV_vals t)
/-- the data that PC reads is there -/
theorem reads_of (I : Inv X pins σ H s) (hK : X.K = W.K) (R : Rep W ι S H) : ∀ (k : Nat) (d : D) (v : V) (u : Value) (p : PyData), rdP k S d = some p → DV W ι H d v → RelV v u → ∃ as, Reads s.heap u p as
  | 0, _, _, _, _, h, _, _ => by cases h
  | k + 1, d, v, u, p, h, hv, hr => by
    have ih := reads_of I hK R k
    have lists : ∀ (a : Addr) (vs : List V) (xs : List D), SqL W.K H a vs → DVs W ι H xs vs → v = .ref a → (optMap (rdP k S) xs).map PyData.list = some p → ∃ as, Reads s.heap u p as := by
      intro a vs xs hq hx e h
      obtain ⟨ps, h1, rfl⟩ := Option.map_eq_some_iff.mp h
      subst e
      cases hr
      rw [← hK] at hq
      obtain ⟨its, rv, ⟨o, n, ho, hc, _, hd⟩, _⟩ := I.list hq
      obtain ⟨as, z⟩ := reads_list ih xs vs its ps h1 hx rv
      exact ⟨_, Reads.list ho hc hd z⟩
    cases d with
    | non =>
      cases (show v = .non from hv)
      cases hr
      cases h
      exact ⟨_, .none⟩
    | bl b =>
      cases (show v = .bl b from hv)
      cases hr
      cases h
      exact ⟨_, .bool b⟩
    | int i =>
      cases (show v = .int i from hv)
      obtain ⟨t, rfl⟩ := hr
      cases h
      exact ⟨_, .int i t⟩
    | str x =>
      cases (show v = .str x from hv)
      obtain ⟨t, rfl⟩ := hr
      cases h
      exact ⟨_, .str x t⟩
    | tup xs =>
      obtain ⟨a, vs, e, hq, hx⟩ := hv
      obtain ⟨ps, h1, rfl⟩ := Option.map_eq_some_iff.mp (show (optMap (rdP k S) xs).map PyData.tuple = some p from h)
      subst e
      cases hr
      rw [← hK] at hq
      obtain ⟨its, rv, ⟨o, ho, hc, n, hd⟩, _⟩ := I.tuple hq
      obtain ⟨as, z⟩ := reads_list ih xs vs its ps h1 hx rv
      exact ⟨_, Reads.tuple ho hc hd z⟩
    | frl xs =>
      obtain ⟨a, vs, e, hq, hx⟩ := hv
      exact lists a vs xs (frl_sq hq) hx e h
    | ref n =>
      obtain ⟨a, e, hn⟩ := hv
      simp only [rdP] at h
      split at h
      · rename_i xs ho
        obtain ⟨vs, q, r⟩ := OV.items (.inl (R.ob n a _ hn ho))
        exact lists a vs xs (.of q) r e h
      · rename_i xs ho
        obtain ⟨vs, q, r⟩ := OV.items (.inr (R.ob n a _ hn ho))
        exact lists a vs xs (.of q) r e h
      · rename_i kvs ho
        obtain ⟨vs, q, r⟩ := R.ob n a _ hn ho
        obtain ⟨ps, h1, rfl⟩ := Option.map_eq_some_iff.mp h
        subst e
        cases hr
        obtain ⟨_, _, us, rk, o, es, ep, ho, hx, hd, _, hp, _⟩ := I.hok a _ q
        have hk : (kvs.map fun kv => kyP kv.1) = us.map fun kv => kyP kv.1 := by
          have z := (kv_keys r).trans (KV_keys rk)
          calc (kvs.map fun kv => kyP kv.1) = (kvs.map (·.1)).map kyP := by rw [List.map_map]; rfl
            _ = (us.map (·.1)).map kyP := by rw [z]
            _ = _ := by rw [List.map_map]; rfl
        obtain ⟨as, z⟩ := reads_list ih (kvs.map (·.2)) _ _ ps h1 (kv_vals r) (KV_vals rk)
        have hl : ps.length = kvs.length := by
          rw [optMap_len h1, List.length_map]
        refine ⟨_, Reads.dict (as := []) (bs := as) ho hx.1 hd ?_ ?_⟩
        · rw [List.map_fst_zip (by simp [hl]), hk]
          exact keys_reads hp
        · rw [List.map_snd_zip (by simp [hl]), pairs_vals hp]
          exact z
      · cases h
    | fn n => cases h
    | lam _ _ => cases h
    | exc _ _ _ => cases h
    | exn _ => cases h
end
end PC
end
section
set_option Elab.async false
set_option linter.all false
set_option maxRecDepth 100000
set_option maxHeartbeats 1000000
namespace PC
open PySem L2

/-- what is asked of all that comes of an answer -/
def Gd (W : Wd) (ι : List Addr) (S : Sto) (H : Hp) (S' : Sto) (d : D) (Q : VK) : Prop := ∀ ι' H' v, Ext ι S H ι' S' H' → Rep W ι' S' H' → DV W ι' H' d v → Q v H'
section
variable {W : Wd} {ι ι' : List Addr} {S S' : Sto} {H H' : Hp} {Q : VK}
theorem Gd.here {d : D} (g : Gd W ι S H S d Q) (R : Rep W ι S H) {v : V} (h : DV W ι H d v) : Q v H := g ι H v .refl R h
theorem Ext.alloc (R : Rep W ι S H) {p : Addr} (hp : H p = none) (u : HO) (o : Ob) : Ext ι S H (ι ++ [p]) (S ++ [o]) (upd H p u) := by
  refine ⟨⟨[p], rfl, fun a ha o ho => ?_⟩, fun a o h _ _ => by rw [upd_ne (ne_of_none h hp)]; exact h, fun n h => ?_⟩
  · have e : a = p := by simpa using ha
    rw [e, hp] at ho
    cases ho
  · by_cases hn : n < S.length
    · rw [List.getElem?_append_left hn]
    · rw [List.getElem?_eq_none (by omega)] at h
      exact h.elim
/-- a new list -/
theorem Gd.lst {xs : List D} (g : Gd W ι S H (S ++ [.lst xs]) (.ref S.length) Q) (R : Rep W ι S H) {vs : List V} (h : DVs W ι H xs vs) {p : Addr} (hp : H p = none) : Q (.ref p) (upd H p (.lst vs)) := by
  have E := Ext.alloc R hp (.lst vs) (.lst xs)
  obtain ⟨R', E'⟩ := R.alloc hp (u := .lst vs) (o := .lst xs) ⟨vs, upd_same, DVs.mono E R _ _ h⟩
  refine g _ _ _ E' R' ⟨p, rfl, ?_⟩
  rw [← R.len, List.getElem?_append_right (Nat.le_refl _)]
  simp
/-- a new dict -/
theorem Gd.dk {kvs : List (Ky × D)} (g : Gd W ι S H (S ++ [.dk kvs]) (.ref S.length) Q) (R : Rep W ι S H) {vs : List (Ky × V)} (h : KVr W ι H kvs vs) {p : Addr} (hp : H p = none) : Q (.ref p) (upd H p (.dK vs)) := by
  have E := Ext.alloc R hp (.dK vs) (.dk kvs)
  obtain ⟨R', E'⟩ := R.alloc hp (u := .dK vs) (o := .dk kvs) ⟨vs, upd_same, KVr.mono E R h⟩
  refine g _ _ _ E' R' ⟨p, rfl, ?_⟩
  rw [← R.len, List.getElem?_append_right (Nat.le_refl _)]
  simp
/-- a new tuple -/
theorem Gd.tup {xs : List D} (g : Gd W ι S H S (.tup xs) Q) (R : Rep W ι S H) {vs : List V} (h : DVs W ι H xs vs) {p : Addr} (hp : H p = none) : Q (.ref p) (upd H p (.tup vs)) := by
  obtain ⟨R', E⟩ := R.put hp (.tup vs)
  exact g _ _ _ E R' ⟨p, vs, rfl, .of upd_same, DVs.mono E R _ _ h⟩
/-- an object changed -/
theorem Gd.set {n : Nat} {a : Addr} {o : Ob} {u : HO} {d : D} (g : Gd W ι S H (S.set n o) d Q) (R : Rep W ι S H) (hn : ι[n]? = some a) (hz : ¬ Fz S[n]?) (ho : ∀ E : Ext ι S H ι (S.set n o) (upd H a u), OV W ι (upd H a u) a o) {v : V} (hv : DV W ι H d v) : Q v (upd H a u) := by
  have E : Ext ι S H ι (S.set n o) (upd H a u) := by
    refine ⟨⟨[], by simp, by simp⟩, fun b o h _ k => ?_, fun m h => ?_⟩
    · rw [upd_ne ?_]
      · exact h
      · rintro rfl
        obtain ⟨m, h1, h2⟩ := k (List.mem_iff_getElem?.mpr ⟨n, hn⟩)
        obtain ⟨z1, e1⟩ := List.getElem?_eq_some_iff.mp h1
        obtain ⟨z2, e2⟩ := List.getElem?_eq_some_iff.mp hn
        rw [(List.getElem_inj R.nd).mp (e1.trans e2.symm)] at h2
        exact hz h2
    · rw [List.getElem?_set_ne]
      rintro rfl
      exact hz h
  obtain ⟨R', E'⟩ := R.write hn hz (ho E)
  exact g _ _ _ E' R' (DV.mono E' R _ _ hv)
end

section
variable {W : Wd} {X : Cx}
/-- a value's truth -/
theorem tru_of {ι : List Addr} {S : Sto} {H : Hp} (R : Rep W ι S H) {d : D} {v : V} {b : Bool} (h : truD d S = some b) (hv : DV W ι H d v) : TruV W.K v H b := by
  have hl : ∀ {vs : List V} {xs : List D}, DVs W ι H xs vs → (!xs.isEmpty) = !vs.isEmpty := fun {vs xs} q => by
    cases xs with
    | nil => rw [show vs = [] from q]; rfl
    | cons x r =>
      obtain ⟨_, _, e, _⟩ := q
      rw [e]; rfl
  cases d with
  | non => cases (show v = .non from hv); cases h; exact rfl
  | bl x => cases (show v = .bl x from hv); cases h; exact rfl
  | int i => cases (show v = .int i from hv); cases h; exact rfl
  | str x =>
    cases (show v = .str x from hv)
    simp only [truD] at h
    split at h
    · rename_i hz
      cases h
      exact ⟨by rw [← line_eq]; exact hz, rfl⟩
    · cases h
  | tup xs =>
    obtain ⟨a, vs, rfl, q, r⟩ := hv
    cases h
    exact .inr (.inl ⟨vs, q, hl r⟩)
  | frl xs =>
    obtain ⟨a, vs, rfl, q, r⟩ := hv
    cases h
    exact .inl ⟨vs, frl_sq q, hl r⟩
  | ref n =>
    obtain ⟨a, rfl, hn⟩ := hv
    simp only [truD] at h
    split at h
    · rename_i xs ho
      cases h
      obtain ⟨vs, q, r⟩ := R.ob n a _ hn ho
      exact .inl ⟨vs, .of q, hl r⟩
    · rename_i xs ho
      cases h
      obtain ⟨vs, q, r⟩ := R.ob n a _ hn ho
      exact .inl ⟨vs, .of q, hl r⟩
    · rename_i kvs ho
      cases h
      obtain ⟨vs, q, r⟩ := R.ob n a _ hn ho
      refine .inr (.inr ⟨vs, q, ?_⟩)
      cases r <;> rfl
    · cases h
  | fn n => cases h
  | lam _ _ => cases h
  | exc _ _ _ => cases h
  | exn _ => cases h
def rBin (W : Wd) (op : Operator) : R2 := fun x y H Q => ∃ ι S d1 d2 d S', Rep W ι S H ∧ DV W ι H d1 x ∧ DV W ι H d2 y ∧ binD op d1 d2 S = some (d, S') ∧ Gd W ι S H S' d Q
theorem mulOk_ok {i j : Int} (h : mulOk i j = true) : CMul i j := by
  unfold mulOk at h
  simp only [Bool.or_eq_true, Bool.and_eq_true, decide_eq_true_eq] at h
  exact h
theorem powOk_ok {i j : Int} (h : powOk i j = true) : CPow i j := by
  unfold powOk at h
  simp only [Bool.and_eq_true, decide_eq_true_eq] at h
  exact ⟨h.1.1, h.1.2, h.2⟩
theorem foldl_app : ∀ (k : Nat) (x acc : Array Nat), ((List.replicate k x).foldl (· ++ ·) acc).toList = acc.toList ++ (List.replicate k x.toList).flatten
  | 0, x, acc => by simp
  | k + 1, x, acc => by
    rw [List.replicate_succ, List.foldl_cons, foldl_app k x (acc ++ x), List.replicate_succ, List.flatten_cons]
    simp
theorem bin_ok (hK : X.K = W.K) (op : Operator) : OpR X (binaryOp op) (rBin W op) := by
  intro pins s σ H x y v u Q I rx ry h
  obtain ⟨ι, S, d1, d2, d, S', R, h1, h2, e, g⟩ := h
  unfold binD at e
  split at e
  · cases e
    cases (show x = .int _ from h1)
    cases (show y = .int _ from h2)
    exact op_add pins s σ H _ _ v u Q I rx ry ⟨_, _, rfl, rfl, g.here R rfl⟩
  · split at e
    · rename_i hz
      cases e
      cases (show x = .str _ from h1)
      cases (show y = .str _ from h2)
      exact op_add_str pins s σ H _ _ v u Q I rx ry ⟨_, _, rfl, rfl, by rw [← line_eq]; exact hz, g.here R rfl⟩
    · cases e
  · rename_i xs ys
    split at e
    · rename_i hz
      cases e
      obtain ⟨a, vs, rfl, qa, ra⟩ := h1
      obtain ⟨b, ws, rfl, qb, rb⟩ := h2
      have la := DVs.length ra
      have lb := DVs.length rb
      refine op_catA pins s σ H _ _ v u Q I rx ry ⟨a, b, vs, ws, rfl, rfl, by rw [hK]; exact qa, by rw [hK]; exact qb, by rw [← la, ← lb, ← line_eq]; exact hz, fun hv => ?_, fun _ hw => ?_, fun _ _ p hp => ?_⟩
      · refine g.here R ⟨b, ws, rfl, qb, ?_⟩
        have := DVs.append ra rb
        rw [hv] at this
        exact this
      · refine g.here R ⟨a, vs, rfl, qa, ?_⟩
        have := DVs.append ra rb
        rw [hw, List.append_nil] at this
        exact this
      · exact g.tup R (DVs.append ra rb) hp
    · cases e
  · rename_i n m
    split at e
    · rename_i xs ys hn hm
      split at e
      · rename_i hz
        cases e
        obtain ⟨a, rfl, ia⟩ := h1
        obtain ⟨b, rfl, ib⟩ := h2
        obtain ⟨vs, qa, ra⟩ := R.ob n a _ ia hn
        obtain ⟨ws, qb, rb⟩ := R.ob m b _ ib hm
        have la := DVs.length ra
        have lb := DVs.length rb
        exact op_cat pins s σ H _ _ v u Q I rx ry ⟨a, b, vs, ws, rfl, rfl, qa, qb, by rw [← la, ← lb, ← line_eq]; exact hz, fun p hp => g.lst R (DVs.append ra rb) hp⟩
      · cases e
    · cases e
  · cases e
    cases (show x = .int _ from h1)
    cases (show y = .int _ from h2)
    exact op_sub pins s σ H _ _ v u Q I rx ry ⟨_, _, rfl, rfl, g.here R rfl⟩
  · split at e
    · rename_i hc
      cases e
      cases (show x = .int _ from h1)
      cases (show y = .int _ from h2)
      exact op_mul pins s σ H _ _ v u Q I rx ry ⟨_, _, rfl, rfl, mulOk_ok hc, g.here R rfl⟩
    · cases e
  · rename_i z j
    split at e
    · rename_i hc
      obtain ⟨c1, c2, c3⟩ := hc
      cases e
      cases (show x = .str _ from h1)
      cases (show y = .int _ from h2)
      obtain ⟨t, rfl⟩ := rx
      obtain ⟨t', rfl⟩ := ry
      have hl : z.length * j.toNat ≤ 16777216 := c3
      have res : ∀ {w' : Str}, w'.cps.toList = (List.replicate j.toNat z.cps.toList).flatten → w' = ⟨((List.replicate j.toNat z.cps.toList).flatten).toArray⟩ := fun {w'} hw => by
        obtain ⟨c⟩ := w'
        rw [← hw]
      have q : ∀ {w' : Str}, w'.cps.toList = (List.replicate j.toNat z.cps.toList).flatten → Q (.str w') H := fun hw => by
        rw [res hw]
        exact g.here R rfl
      refine P.mul_str ?_ (fun n1 n2 => ?_) (fun n1 n2 => ?_) ?_
      · have a1 : decide (j < -(2 ^ 63 : Int)) = false := decide_eq_false (by omega)
        have a2 : decide (j ≥ (2 ^ 63 : Int)) = false := decide_eq_false (by omega)
        rw [a1, a2]
        rfl
      · have hj : 0 < j := by omega
        have hx : (z.length : Int) * j ≤ 16777216 := by
          have e2 : ((z.length * j.toNat : Nat) : Int) = (z.length : Int) * j := by
            rw [Int.natCast_mul, Int.toNat_of_nonneg c1]
          rw [← e2]
          generalize z.length * j.toNat = P at hl
          omega
        have hq : (z.length : Int) ≤ (2 ^ 63 - 1) / j := (Int.le_ediv_iff_mul_le hj).mpr (by omega)
        omega
      · show decide (_ > _) = false
        have e3 : sizeLine = 16777216 := sizeLine_eq
        exact decide_eq_false (by omega)
      · split
        · rename_i hj
          have e0 : j.toNat = 0 := by omega
          exact ⟨by rw [sizeLine_eq]; exact Nat.zero_le _, .str Str.empty, H, I.tok _, ⟨_, rfl⟩, q (by rw [e0]; rfl)⟩
        · split
          · rename_i hj h3
            refine ⟨.str z, H, I, ⟨_, rfl⟩, q ?_⟩
            simp only [Bool.or_eq_true, beq_iff_eq] at h3
            rcases h3 with h3 | h3
            · rw [h3]
              simp
            · have e0 : z.cps.toList = [] := by
                have : z.cps.size = 0 := h3
                simpa using this
              rw [e0]
              simp
          · have e4 : (({ cps := List.foldl (fun x1 x2 => x1 ++ x2) #[] (List.replicate j.toNat z.cps) } : Str)).cps.toList = (List.replicate j.toNat z.cps.toList).flatten := by
              rw [foldl_app]
              simp
            refine ⟨?_, .str _, H, I.tok _, ⟨_, rfl⟩, q e4⟩
            show Array.size _ ≤ _
            rw [← Array.length_toList, e4, List.length_flatten, sizeLine_eq]
            simp only [List.map_replicate, List.sum_replicate_nat, Array.length_toList]
            rw [Nat.mul_comm]
            exact hl
    · cases e
  · rename_i n j
    split at e
    · rename_i xs hn
      split at e
      · rename_i hc
        obtain ⟨c1, c2, c3⟩ := hc
        cases e
        obtain ⟨a, rfl, ia⟩ := h1
        cases (show y = .int _ from h2)
        obtain ⟨vs, qa, ra⟩ := R.ob n a _ ia hn
        have la := DVs.length ra
        exact op_rep pins s σ H _ _ v u Q I rx ry ⟨a, j, vs, rfl, rfl, qa, by omega, by omega, by rw [← la, ← line_eq]; exact c3, fun p hp => g.lst R (DVs.flat ra _) hp⟩
      · cases e
    · cases e
  · split at e
    · rename_i hc
      cases e
      cases (show x = .int _ from h1)
      cases (show y = .int _ from h2)
      exact op_fdiv pins s σ H _ _ v u Q I rx ry ⟨_, _, rfl, rfl, hc, g.here R rfl⟩
    · cases e
  · split at e
    · rename_i hc
      cases e
      cases (show x = .int _ from h1)
      cases (show y = .int _ from h2)
      exact op_mod pins s σ H _ _ v u Q I rx ry ⟨_, _, rfl, rfl, hc, g.here R rfl⟩
    · cases e
  · split at e
    · rename_i hc
      cases e
      cases (show x = .int _ from h1)
      cases (show y = .int _ from h2)
      exact op_pow pins s σ H _ _ v u Q I rx ry ⟨_, _, rfl, rfl, powOk_ok hc, g.here R rfl⟩
    · cases e
  · split at e
    · rename_i hc
      cases e
      cases (show x = .int _ from h1)
      cases (show y = .int _ from h2)
      exact op_shl pins s σ H _ _ v u Q I rx ry ⟨_, _, rfl, rfl, powOk_ok hc, g.here R rfl⟩
    · cases e
  · cases e
end
end PC
end
section
set_option Elab.async false
set_option linter.all false
set_option maxRecDepth 100000
set_option maxHeartbeats 1000000
/-! PC: dicts whose keys are tuples of numbers and texts (the tuples may be the program's constants). -/
namespace PC
open PySem L2 PyProof.Rows
section
variable {W : Wd} {X : Cx} {ι : List Addr} {S : Sto} {H : Hp} {pins : List (Addr × Obj)} {σ : L2.St} {s : Shared} {a b : Addr} {xs : List (List Key × Addr × Value)} {k : List Key} {P : Program} {A : Around} {E : Value → Shared → Prop}
theorem key_is (I : L2.Inv X pins σ H s) (e : SqT X.K H b (k.map kV)) : (tupleKind (mixKind X.prog X.w)).is s.heap k b := by
  obtain ⟨its, r, ⟨o, h1, h2, n, h3⟩, _⟩ := I.tuple e
  exact ⟨o, its.toArray, n, h1, h2, h3, by simpa using items_are r⟩
theorem dt_dict (I : L2.Inv X pins σ H s) (e : H a = some (dtO P X.w a xs)) (hk : ∀ q ∈ xs, SqT X.K H q.2.1 (q.1.map kV)) : (a == sysModules) = false ∧ s.heap.DictOfH (tupleKind (mixKind X.prog X.w)) a xs := by
  obtain ⟨⟨hd, o, es, ep, h1, h2, h3, h4, h5⟩, _, _⟩ := (show ObjOk X.prog X.w H s.heap a (dtO P X.w a xs) from I.hok a _ e)
  exact ⟨hd, o, es, ep, h1, h2, h3, h4, fun q hq => key_is I (hk q hq), h5⟩
theorem dt_objok {P' : Program} {w : World} {H' : Hp} {h : Heap} (hd : (a == sysModules) = false) (dd : ∃ o es ep, h.get? a = some o ∧ o.ExactDict ∧ o.data = .dict es ep ∧ es.toList = xs.map (entryOfKey (tupleKind (mixKind P w))) ∧ (xs.map (·.1)).Nodup) : ObjOk P' w H' h a (dtO P w a xs) := by
  refine ⟨⟨hd, dd⟩, ?_, fun h1 h2 ⟨_, o, es, ep, e, r⟩ st => ⟨hd, o, es, ep, st o e, r⟩⟩
  obtain ⟨o, _, _, e, _⟩ := dd
  exact ⟨o, e⟩
theorem dt_in {v : Value} {Q : Value → Shared → Prop} (hu : A.units + 1 < cLine) (I : L2.Inv X pins σ H s) (e : H a = some (dtO P X.w a xs)) (hk : ∀ q ∈ xs, SqT X.K H q.2.1 (q.1.map kV)) (eb : SqT X.K H b (k.map kV))
    (h : ∀ s', L2.Inv X pins σ H s' → Q (.bool (atKey xs k).isSome) s') : wpAny (model X.prog X.w) A (compareOp .In (.ref b) (.ref a)) Q E s := by
  obtain ⟨hd, dd⟩ := dt_dict I e hk
  exact wpAny_in_heap (tupleKind_room_in1 hu) (key_is I eb) hd dd (h _ (I.tok _))
theorem dt_notIn {v : Value} {Q : Value → Shared → Prop} (hu : A.units + 1 < cLine) (I : L2.Inv X pins σ H s) (e : H a = some (dtO P X.w a xs)) (hk : ∀ q ∈ xs, SqT X.K H q.2.1 (q.1.map kV)) (eb : SqT X.K H b (k.map kV))
    (h : ∀ s', L2.Inv X pins σ H s' → Q (.bool (!(atKey xs k).isSome)) s') : wpAny (model X.prog X.w) A (compareOp .NotIn (.ref b) (.ref a)) Q E s := by
  obtain ⟨hd, dd⟩ := dt_dict I e hk
  exact wpAny_notIn_heap (tupleKind_room_in1 hu) (key_is I eb) hd dd (h _ (I.tok _))
theorem dt_get {p : Addr × Value} {Q : Value → Shared → Prop} (hu : A.units + 1 < cLine) (I : L2.Inv X pins σ H s) (e : H a = some (dtO P X.w a xs)) (hk : ∀ q ∈ xs, SqT X.K H q.2.1 (q.1.map kV)) (eb : SqT X.K H b (k.map kV)) (hp : atKey xs k = some p)
    (h : ∀ s', L2.Inv X pins σ H s' → Q p.2 s') : wpAny (model X.prog X.w) A (getItem (.ref a) (.ref b)) Q E s := by
  obtain ⟨hd, dd⟩ := dt_dict I e hk
  exact wpAny_getItem_heap (tupleKind_room_in1 hu) (key_is I eb) dd hp (h _ (I.tok _))
theorem dt_set {r : Value} {Q : Unit → Shared → Prop} (hu : A.units + 1 < cLine) (I : L2.Inv X pins σ H s) (e : H a = some (dtO P X.w a xs)) (hk : ∀ q ∈ xs, SqT X.K H q.2.1 (q.1.map kV)) (eb : SqT X.K H b (k.map kV)) (hz : xs.length ≤ sizeLine)
    (h : ∀ s', L2.Inv X pins σ (upd H a (dtO X.prog X.w a (storedH xs k b r))) s' → Q () s') : wpAny (model X.prog X.w) A (setItem (.ref a) (.ref b) r) Q E s := by
  obtain ⟨hd, dd⟩ := dt_dict I e hk
  refine wpAny_setItem_heap (hsz := hz) (tupleKind_room_in1 hu) (key_is I eb) dd fun h' dd' hs => h _ ?_
  obtain ⟨q, es, ep, hq, h2, h3, h4, _, h5⟩ := dd'
  exact d_write I (by rw [e]; exact True.intro) hs ⟨q, hq⟩ (dt_objok hd ⟨q, es, ep, hq, h2, h3, h4, h5⟩)
theorem dt_typeIs (I : L2.Inv X pins σ H s) (e : H a = some (dtO P X.w a xs)) : s.TypeIs (.ref a) "dict" := by
  obtain ⟨⟨hd, o, es, ep, h1, h2, h3, h4, h5⟩, _, _⟩ := (show ObjOk X.prog X.w H s.heap a (dtO P X.w a xs) from I.hok a _ e)
  exact ⟨o, h1, h2.1⟩
theorem dt_fact {w : World} (I : L2.Inv X pins σ H s) (e : H a = some (dtO P w a xs)) : ∃ h, dtF P w a xs h := by
  obtain ⟨q, _, _⟩ := (show ObjOk X.prog X.w H s.heap a (dtO P w a xs) from I.hok a _ e)
  exact ⟨_, q⟩
/-- the empty dict is of both kinds -/
theorem to_dt (I : L2.Inv X pins σ H s) (e : H a = some (.dK [])) : L2.Inv X pins σ (upd H a (dtO X.prog X.w a [])) s := by
  obtain ⟨_, hd, vs, rel, o, es, ep, h1, h2, h3, _, h4, _⟩ := dk_of I.hok e
  cases rel
  have he : es.toList = [] := by
    cases hes : es.toList with
    | nil => rfl
    | cons x r => rw [hes] at h4; cases h4
  exact d_write (h' := s.heap) (t' := s.toks) I (by rw [e]; exact True.intro) (Heap.SameBut.refl _ _) ⟨o, h1⟩ (dt_objok hd ⟨o, es, ep, h1, h2, h3, by rw [he]; rfl, List.nodup_nil⟩)
theorem to_dk (I : L2.Inv X pins σ H s) (e : H a = some (dtO P X.w a [])) : L2.Inv X pins σ (upd H a (.dK [])) s := by
  obtain ⟨⟨hd, o, es, ep, h1, h2, h3, h4, h5⟩, _, _⟩ := (show ObjOk X.prog X.w H s.heap a (dtO P X.w a []) from I.hok a _ e)
  have he : es.toList = [] := h4
  refine d_write (h' := s.heap) (t' := s.toks) I (by rw [e]; exact True.intro) (Heap.SameBut.refl _ _) ⟨o, h1⟩ ⟨Nat.zero_le _, hd, [], .nil, o, es, ep, h1, h2, h3, ?_, by rw [he]; exact .nil, List.nodup_nil⟩
  intro x hx
  have : x ∈ es.toList := by simpa using hx
  rw [he] at this
  cases this
theorem upd_self {H : Hp} {o : HO} (e : H a = some o) : upd H a o = H := by
  funext b
  by_cases hb : b = a
  · rw [hb, upd_same, e]
  · rw [upd_ne hb]
theorem sqt_upd {K : PySem.W.Frag} {H : Hp} {a b : Addr} {o u : HO} {vs : List V} (e : H a = some u) (hu : Own u) (h : SqT K H b vs) : SqT K (upd H a o) b vs := by
  rcases h with (h | ⟨ob, h⟩) | h
  · refine .inl (.inl ?_)
    rw [upd_ne ?_]
    · exact h
    · rintro rfl
      rw [h] at e
      cases e
      exact hu.elim
  · refine .inl (.inr ⟨ob, ?_⟩)
    rw [upd_ne ?_]
    · exact h
    · rintro rfl
      rw [h] at e
      cases e
      exact hu.elim
  · exact .inr h
/-- a tuple's keys -/
theorem keys_v : ∀ {ds : List D} {vs : List V} {ks : List Ky}, optMap keyOf ds = some ks → DVs W ι H ds vs → ks.map kV = vs
  | [], _, _, h, hv => by cases h; exact (show _ = [] from hv).symm
  | d :: ds, _, _, h, ⟨v, r, e, q, t⟩ => by
    subst e
    obtain ⟨y, ys, rfl, h1, h2⟩ := optMap_cons h
    rw [List.map_cons, keys_v h2 t]
    congr 1
    cases d with
    | int i => cases h1; exact (show v = .int i from q).symm
    | str z => cases h1; exact (show v = .str z from q).symm
    | _ => cases h1
theorem keysOf_v {d : D} {x : V} {ks : List Ky} (h : keysOf d = some ks) (hv : DV W ι H d x) : ∃ b, x = .ref b ∧ SqT W.K H b (ks.map kV) := by
  cases d with
  | tup ds =>
    obtain ⟨b, vs, e, q, r⟩ := hv
    exact ⟨b, e, by rw [keys_v (show optMap keyOf ds = some ks from h) r]; exact q⟩
  | _ => cases h
theorem dtr_keys : ∀ {kvs : List (List Ky × D)} {xs : List (List Key × Addr × Value)}, DTr W ι H kvs xs → ∀ q ∈ xs, SqT W.K H q.2.1 (q.1.map kV)
  | _, _, .nil, q, hq => nomatch hq
  | _, _, .cons h t, q, hq => by
    rcases List.mem_cons.mp hq with rfl | hq
    · exact h.2.1
    · exact dtr_keys t q hq
theorem dtr_val : ∀ {kvs : List (List Ky × D)} {xs : List (List Key × Addr × Value)}, DTr W ι H kvs xs → ∀ k : List Ky, (valK k kvs = none ∧ atKey xs k = none) ∨ ∃ d p v, valK k kvs = some d ∧ atKey xs k = some p ∧ RelV v p.2 ∧ DV W ι H d v
  | _, _, .nil, k => .inl ⟨rfl, rfl⟩
  | (j, d) :: kvs, (j', p) :: xs, .cons h t, k => by
    obtain ⟨e, _, v, rv, hv⟩ := h
    cases (show j = j' from e)
    by_cases hk : j = k
    · refine .inr ⟨d, p, v, ?_, ?_, rv, hv⟩
      · simp [valK, hk]
      · simp [atKey, hk]
    · rcases dtr_val t k with ⟨e1, e2⟩ | ⟨d', p', v', e1, e2, q⟩
      · exact .inl ⟨by simpa [valK, hk] using e1, by simpa [atKey, hk] using e2⟩
      · exact .inr ⟨d', p', v', by simpa [valK, hk] using e1, by simpa [atKey, hk] using e2, q⟩
theorem any_valK {kvs : List (List Ky × D)} (k : List Ky) : (kvs.any fun kv => decide (kv.1 = k)) = (valK k kvs).isSome := by
  unfold valK
  rw [Option.isSome_map]
  induction kvs with
  | nil => rfl
  | cons p r ih =>
    rw [List.any_cons, List.find?_cons, ih]
    by_cases e : p.1 = k
    · simp [e]
    · simp [e]
theorem dtr_any {kvs : List (List Ky × D)} {xs : List (List Key × Addr × Value)} (h : DTr W ι H kvs xs) (k : List Ky) : (kvs.any fun kv => decide (kv.1 = k)) = (atKey xs k).isSome := by
  rw [any_valK]
  rcases dtr_val h k with ⟨e1, e2⟩ | ⟨d, p, v, e1, e2, _⟩ <;> rw [e1, e2] <;> rfl
theorem dtr_repl {k : List Ky} {d : D} {v : V} {r : Value} (hv : DV W ι H d v) (rv : RelV v r) : ∀ {kvs : List (List Ky × D)} {xs : List (List Key × Addr × Value)}, DTr W ι H kvs xs → DTr W ι H (kvs.map fun kv => if kv.1 = k then (kv.1, d) else kv) (xs.map (putAt k r))
  | _, _, .nil => .nil
  | (j, d') :: kvs, (j', p) :: xs, .cons h t => by
    obtain ⟨e, z, w⟩ := h
    cases (show j = j' from e)
    refine .cons ?_ (dtr_repl hv rv t)
    by_cases hk : j = k
    · simp only [hk, putAt, if_true]
      exact ⟨trivial, by rw [← hk]; exact z, v, rv, hv⟩
    · simp only [hk, putAt, if_false]
      exact ⟨trivial, z, w⟩
theorem dtr_put {kvs : List (List Ky × D)} {xs : List (List Key × Addr × Value)} (h : DTr W ι H kvs xs) {k : List Ky} {b : Addr} {d : D} {v : V} {r : Value} (hb : SqT W.K H b (k.map kV)) (hv : DV W ι H d v) (rv : RelV v r) : DTr W ι H (putK k d kvs) (storedH xs k b r) := by
  unfold putK storedH
  rw [dtr_any h k]
  split
  · exact dtr_repl hv rv h
  · exact Paired.snoc h ⟨rfl, hb, v, rv, hv⟩
theorem dtr_len {kvs : List (List Ky × D)} {xs : List (List Key × Addr × Value)} (h : DTr W ι H kvs xs) : kvs.length = xs.length := Paired.length h
end
end PC
end
section
set_option Elab.async false
set_option linter.all false
set_option maxRecDepth 100000
set_option maxHeartbeats 1000000
namespace PC
open PySem L2
section
variable {W : Wd} {X : Cx} {ι : List Addr} {S : Sto} {H : Hp} {pins : List (Addr × Obj)} {σ : L2.St} {s : Shared}
theorem rdQ_ok {d : D} {p : PyData} (h : rdQ S d = some p) : rdP 60 S d = some p ∧ noD p = true := by
  unfold rdQ at h
  split at h
  · split at h
    · cases h
      exact ⟨by assumption, by assumption⟩
    · cases h
  · cases h
theorem depthAll_le {k : Nat} : ∀ {ps : List PyData}, (∀ p ∈ ps, p.depth ≤ k) → PyData.depthAll ps ≤ k
  | [], _ => Nat.zero_le _
  | p :: r, h => by
    show max p.depth (PyData.depthAll r) ≤ k
    exact Nat.max_le.mpr ⟨h p List.mem_cons_self, depthAll_le fun q hq => h q (List.mem_cons_of_mem _ hq)⟩
theorem optMap_mem {α β : Type} {f : α → Option β} : ∀ {xs : List α} {ys : List β}, optMap f xs = some ys → ∀ y ∈ ys, ∃ x ∈ xs, f x = some y
  | [], _, h, y, hy => by cases h; cases hy
  | x :: xs, _, h, y, hy => by
    obtain ⟨z, zs, rfl, h1, h2⟩ := optMap_cons h
    rcases List.mem_cons.mp hy with rfl | hy
    · exact ⟨x, List.mem_cons_self, h1⟩
    · obtain ⟨x', m, e⟩ := optMap_mem h2 y hy
      exact ⟨x', List.mem_cons_of_mem _ m, e⟩
theorem rdP_depth : ∀ (k : Nat) (d : D) (p : PyData), rdP k S d = some p → noD p = true → p.depth ≤ k
  | 0, _, _, h, _ => by cases h
  | k + 1, d, p, h, hn => by
    have ih := rdP_depth k
    have nds : ∀ {ps : List PyData}, noDs ps = true → ∀ q ∈ ps, noD q = true := by
      intro ps
      induction ps with
      | nil => intro _ q hq; cases hq
      | cons a r ihr =>
        intro hh q hq
        obtain ⟨a1, a2⟩ := Bool.and_eq_true_iff.mp (show (noD a && noDs r) = true from hh)
        rcases List.mem_cons.mp hq with rfl | hq
        · exact a1
        · exact ihr a2 q hq
    have all : ∀ {xs : List D} {ps : List PyData}, optMap (rdP k S) xs = some ps → noDs ps = true → PyData.depthAll ps ≤ k := fun {xs ps} hm hd => depthAll_le fun q hq => by
      obtain ⟨x, _, e⟩ := optMap_mem hm q hq
      exact ih x q e (nds hd q hq)
    have lst : ∀ {xs : List D}, (optMap (rdP k S) xs).map PyData.list = some p → p.depth ≤ k + 1 := fun {xs} h => by
      obtain ⟨ps, h1, rfl⟩ := Option.map_eq_some_iff.mp h
      exact Nat.succ_le_succ (all h1 hn)
    cases d with
    | non => cases h; exact Nat.zero_le _
    | bl _ => cases h; exact Nat.zero_le _
    | int _ => cases h; exact Nat.zero_le _
    | str _ => cases h; exact Nat.zero_le _
    | tup xs =>
      obtain ⟨ps, h1, rfl⟩ := Option.map_eq_some_iff.mp (show (optMap (rdP k S) xs).map PyData.tuple = some p from h)
      exact Nat.succ_le_succ (all h1 hn)
    | frl xs => exact lst h
    | ref n =>
      simp only [rdP] at h
      split at h
      · exact lst h
      · exact lst h
      · obtain ⟨ps, h1, rfl⟩ := Option.map_eq_some_iff.mp h
        cases hn
      · cases h
    | fn n => cases h
    | lam _ _ => cases h
    | exc _ _ _ => cases h
    | exn _ => cases h
theorem data_at (I : L2.Inv X pins σ H s) (hK : X.K = W.K) (R : Rep W ι S H) {d : D} {x : V} {u : Value} {p : PyData} (hp : rdQ S d = some p) (h1 : DV W ι H d x) (r1 : RelV x u) :
    (∃ as, Reads s.heap u p as) ∧ noD p = true ∧ p.depth ≤ 60 := by
  obtain ⟨p1, p2⟩ := rdQ_ok hp
  exact ⟨reads_of I hK R 60 d x u p p1 h1 r1, p2, rdP_depth 60 d p p1 p2⟩
theorem datas_at (I : L2.Inv X pins σ H s) (hK : X.K = W.K) (R : Rep W ι S H) : ∀ {ds : List D} {xs : List V} {us : List Value} {ps : List PyData}, optMap (rdQ S) ds = some ps → DVs W ι H ds xs → Vals xs us →
    us.length = ps.length ∧ ∀ (j : Nat) (h1 : j < us.length) (h2 : j < ps.length), (∃ as, Reads s.heap us[j] ps[j] as) ∧ noD ps[j] = true ∧ ps[j].depth ≤ 60
  | [], _, _, _, h, hv, hr => by
    cases h
    cases (show _ = [] from hv)
    cases hr
    exact ⟨rfl, fun j h1 _ => absurd h1 (Nat.not_lt_zero _)⟩
  | d :: ds, _, _, _, h, ⟨v, r, e, q, t⟩, hr => by
    subst e
    obtain ⟨y, ys, rfl, h1, h2⟩ := optMap_cons h
    cases hr with
    | cons r1 r2 =>
      obtain ⟨e, ih⟩ := datas_at I hK R h2 t r2
      refine ⟨by rw [List.length_cons, List.length_cons, e], fun j j1 j2 => ?_⟩
      cases j with
      | zero => exact data_at I hK R h1 q r1
      | succ j => exact ih j (Nat.lt_of_succ_lt_succ j1) (Nat.lt_of_succ_lt_succ j2)
def rCmp (W : Wd) (op : CmpOp) : R2 := fun x y H Q => ∃ ι S d1 d2 b, Rep W ι S H ∧ DV W ι H d1 x ∧ DV W ι H d2 y ∧ cmpD op d1 d2 S = some b ∧ Q (.bl b) H
theorem fin_b {Q : VK} {b : Bool} (I : L2.Inv X pins σ H s) (q : Q (.bl b) H) : EP X pins σ Q (.bool b) s := ⟨.bl b, H, I, rfl, q⟩
/-- which items are like p -/
def likeI (its : List Value) (qs : List PyData) (p : PyData) (u : Value) : Bool := decide (∃ (j : Nat) (h2 : j < qs.length), its[j]? = some u ∧ (qs[j].eqv p) = true)
theorem items_at (I : L2.Inv X pins σ H s) (hK : X.K = W.K) (R : Rep W ι S H) (hu : X.A.units + 64 < cLine) {d : D} {xs : List D} {x : V} {v : Value} {vs : List V} {its : List Value} {p : PyData} {qs : List PyData} (hp : rdQ S d = some p) (hqs : optMap (rdQ S) xs = some qs) (h1 : DV W ι H d x) (r1 : RelV x v) (h2 : DVs W ι H xs vs) (rv : Vals vs its) :
    its.length = qs.length ∧ (∀ y, y ∈ its.toArray → SeqAt.EqAt X.A.in1 s y v (likeI its qs p y)) ∧ ∀ (j : Nat) (j1 : j < its.length) (j2 : j < qs.length), likeI its qs p its[j] = (qs[j].eqv p) := by
  obtain ⟨⟨as, z1⟩, p2, p3⟩ := data_at I hK R hp h1 r1
  obtain ⟨e, ih⟩ := datas_at I hK R hqs h2 rv
  have like : ∀ (j : Nat) (j1 : j < its.length) (j2 : j < qs.length), likeI its qs p its[j] = (qs[j].eqv p) := fun j j1 j2 => by
    obtain ⟨⟨bs, w1⟩, w2, w3⟩ := ih j j1 j2
    unfold likeI
    rw [Bool.eq_iff_iff, decide_eq_true_eq]
    refine ⟨fun ⟨i, i2, ei, h⟩ => ?_, fun h => ⟨j, j2, List.getElem?_eq_getElem j1, h⟩⟩
    have i1 : i < its.length := by rw [e]; exact i2
    obtain ⟨⟨cs, v1⟩, v2, _⟩ := ih i i1 i2
    rw [List.getElem?_eq_getElem i1] at ei
    rw [Option.some.inj ei] at v1
    rw [reads_one _ _ _ _ _ w2 w1 v1]
    exact h
  refine ⟨e, fun y hy => ?_, like⟩
  obtain ⟨j, j1, rfl⟩ := List.getElem_of_mem (show y ∈ its by simpa using hy)
  have j2 : j < qs.length := by rw [← e]; exact j1
  obtain ⟨⟨bs, w1⟩, w2, w3⟩ := ih j j1 j2
  rw [like j j1 j2]
  exact eqR qs[j] p X.A.in1 s _ _ _ _ w1 z1 w2 p2 (by show X.A.units + 1 + _ < _; omega)
def rIndex (W : Wd) : V → List V → Hp → VK → Prop := fun x xs H Q => ∃ ι S a vs ds d y p qs j, x = .ref a ∧ xs = [y] ∧ Rep W ι S H ∧ SqL W.K H a vs ∧ DVs W ι H ds vs ∧ DV W ι H d y ∧ rdQ S d = some p ∧ optMap (rdQ S) ds = some qs ∧ qs.findIdx? (fun q => q.eqv p) = some j ∧ Q (.int (j : Nat)) H
theorem mt_index (hK : X.K = W.K) (hu : X.A.units + 64 < cLine) : MtR X "list.index" (rIndex W) := by
  intro pins s σ H x xs v us Q I rx rxs h
  obtain ⟨ι, S, a, vs, ds, d, y, p, qs, j, rfl, rfl, R, hq, hz, hy, hp, hqs, hj, q⟩ := h
  cases rx
  obtain ⟨uy, rfl, ry⟩ := vals1 rxs
  obtain ⟨its, rv, hl, hlen⟩ := I.list (by rw [hK]; exact hq)
  obtain ⟨e, h1, h2⟩ := items_at I hK R hu hp hqs hy ry hz rv
  obtain ⟨⟨cls, dd, data, sl⟩, ho, hc, n, hd⟩ := hl.isList
  simp only at hc hd
  subst hc hd
  obtain ⟨j2, hj2, hj3⟩ := List.findIdx?_eq_some_iff_getElem.mp hj
  have j1 : j < its.length := by rw [e]; exact j2
  have hsl := sizeLine_eq
  have hvl := rv.length
  refine call_meets PySem.F.slot_list_index ⟨_, ho, rfl⟩ PySem.F.entry_list_index (PySem.F.args_list_index_2 _ _)
    (SeqAt.list_indexAt a its.toArray n dd sl uy (likeI its qs p) j (by simpa using j1) (by omega) (by simpa using (h2 j j1 j2).trans hj2) fun m hm hmj => ?_) ⟨ho, h1, .int (j : Nat), H, I.tok _, ⟨_, rfl⟩, q⟩
  have m1 : m < its.length := by simpa using hm
  have m2 : m < qs.length := by rw [← e]; exact m1
  have q3 : (qs[m].eqv p) = false := by simpa using hj3 m hmj
  simpa using (h2 m m1 m2).trans q3
/-- x in a list, a tuple of data -/
theorem in_any (neg : Bool) (I : L2.Inv X pins σ H s) (hK : X.K = W.K) (R : Rep W ι S H) (hu : X.A.units + 64 < cLine) {d : D} {xs : List D} {b : Bool} {x : V} {v : Value} {a : Addr} {vs : List V} {Q : VK} (h : inD d xs S = some b) (h1 : DV W ι H d x) (r1 : RelV x v)
    (hq : SqL W.K H a vs ∨ SqT W.K H a vs) (h2 : DVs W ι H xs vs) (q : Q (.bl (if neg then !b else b)) H) :
    wpAny (model X.prog X.w) X.A (compareOp (if neg then .NotIn else .In) v (.ref a)) (EP X pins σ Q) X.xe s := by
  unfold inD at h
  split at h
  · rename_i p qs hp hqs
    cases h
    obtain ⟨⟨as, z1⟩, p2, p3⟩ := data_at I hK R hp h1 r1
    -- what the items are
    have all : ∀ {its : List Value}, Vals vs its → (its.toArray.any fun u => decide (∃ (j : Nat) (h2 : j < qs.length), its[j]? = some u ∧ (qs[j].eqv p) = true)) = (qs.any fun z => z.eqv p) ∧
        ∀ y, y ∈ its.toArray → SeqAt.EqAt X.A.in1 s y v (decide (∃ (j : Nat) (h2 : j < qs.length), its[j]? = some y ∧ (qs[j].eqv p) = true)) := fun {its} rv => by
      obtain ⟨e, ih⟩ := datas_at I hK R hqs h2 rv
      refine ⟨?_, fun y hy => ?_⟩
      · rw [Bool.eq_iff_iff]
        simp only [List.any_toArray, List.any_eq_true, decide_eq_true_eq]
        constructor
        · rintro ⟨u, _, j, j2, _, h⟩
          exact ⟨_, List.getElem_mem j2, h⟩
        · rintro ⟨z, hz, h⟩
          obtain ⟨j, j2, rfl⟩ := List.getElem_of_mem hz
          have j1 : j < its.length := by rw [e]; exact j2
          exact ⟨its[j], List.getElem_mem j1, j, j2, List.getElem?_eq_getElem j1, h⟩
      · obtain ⟨j, j1, rfl⟩ := List.getElem_of_mem (show y ∈ its by simpa using hy)
        have j2 : j < qs.length := by rw [← e]; exact j1
        obtain ⟨⟨bs, w1⟩, w2, w3⟩ := ih j j1 j2
        have z := eqR qs[j] p X.A.in1 s _ _ _ _ w1 z1 w2 p2 (by show X.A.units + 1 + _ < _; omega)
        have eb : decide (∃ (i : Nat) (h2 : i < qs.length), its[i]? = some its[j] ∧ (qs[i].eqv p) = true) = (qs[j].eqv p) := by
          rw [Bool.eq_iff_iff]
          simp only [decide_eq_true_eq]
          constructor
          · rintro ⟨i, i2, ei, h⟩
            have i1 : i < its.length := by rw [e]; exact i2
            obtain ⟨⟨cs, v1⟩, v2, _⟩ := ih i i1 i2
            rw [List.getElem?_eq_getElem i1] at ei
            rw [Option.some.inj ei] at v1
            rw [reads_one _ _ _ _ _ w2 w1 v1]
            exact h
          · exact fun h => ⟨j, j2, List.getElem?_eq_getElem j1, h⟩
        rw [eb]
        exact z
    rcases hq with hq | hq
    · obtain ⟨its, rv, pl, _⟩ := I.list (by rw [hK]; exact hq)
      obtain ⟨ea, ee⟩ := all rv
      cases neg with
      | true => exact SeqAt.notIn_listAt _ pl.isList ee (by rw [ea]; exact fin_b I q)
      | false => exact SeqAt.in_listAt _ pl.isList ee (by rw [ea]; exact fin_b I q)
    · obtain ⟨its, rv, pl, _⟩ := I.tuple (by rw [hK]; exact hq)
      obtain ⟨ea, ee⟩ := all rv
      cases neg with
      | true => exact SeqAt.notIn_tupleAt _ (show s.heap.IsTuple a its.toArray from pl) ee (by rw [ea]; exact fin_b I q)
      | false => exact SeqAt.in_tupleAt _ (show s.heap.IsTuple a its.toArray from pl) ee (by rw [ea]; exact fin_b I q)
  · cases h
theorem key_v {ι : List Addr} {H : Hp} {d : D} {x : V} {k : Ky} (h : keyOf d = some k) (hv : DV W ι H d x) : kV k = x := by
  cases d with
  | int i => cases h; exact (show x = .int i from hv).symm
  | str z => cases h; exact (show x = .str z from hv).symm
  | _ => cases h
theorem kv_val {ι : List Addr} {H : Hp} {κ : Type} [DecidableEq κ] : ∀ {kvs : List (κ × D)} {vs : List (κ × V)}, KVr W ι H kvs vs → ∀ k : κ, (valK k kvs = none ∧ valV vs k = none) ∨ ∃ d v, valK k kvs = some d ∧ valV vs k = some v ∧ DV W ι H d v
  | _, _, .nil, k => .inl ⟨rfl, rfl⟩
  | (j, d) :: kvs, (j', v) :: vs, .cons h t, k => by
    obtain ⟨e, hv⟩ := h
    cases (show j = j' from e)
    by_cases hk : j = k
    · refine .inr ⟨d, v, ?_, ?_, hv⟩
      · simp [valK, hk]
      · simp [valV, hk]
    · rcases kv_val t k with ⟨e1, e2⟩ | ⟨d', v', e1, e2, q⟩
      · exact .inl ⟨by simpa [valK, hk] using e1, by simpa [valV, hk] using e2⟩
      · exact .inr ⟨d', v', by simpa [valK, hk] using e1, by simpa [valV, hk] using e2, q⟩
theorem isIn_ok (neg : Bool) (I : L2.Inv X pins σ H s) (hK : X.K = W.K) (hw : X.w = W.w) (R : Rep W ι S H) (hu : X.A.units + 64 < cLine) {d1 d2 : D} {b : Bool} {x y : V} {v u : Value} {Q : VK} (h : cmpD.isIn d1 d2 S = some b) (h1 : DV W ι H d1 x) (h2 : DV W ι H d2 y)
    (rx : RelV x v) (ry : RelV y u) (q : Q (.bl (if neg then !b else b)) H) : wpAny (model X.prog X.w) X.A (compareOp (if neg then .NotIn else .In) v u) (EP X pins σ Q) X.xe s := by
  unfold cmpD.isIn at h
  split at h
  · rename_i z
    split at h
    · rename_i w'
      split at h
      · rename_i c hc
        cases h
        cases (show x = .str _ from h1)
        cases (show y = .str _ from h2)
        have e : w' = ⟨#[c]⟩ := by
          obtain ⟨z'⟩ := w'
          have : z' = #[c] := by simpa using congrArg List.toArray hc
          rw [this]
        subst e
        cases neg with
        | true => exact op_notIn_sign pins s σ H _ _ v u Q I rx ry ⟨c, z, rfl, rfl, q⟩
        | false => exact op_in_sign pins s σ H _ _ v u Q I rx ry ⟨c, z, rfl, rfl, q⟩
      · cases h
    · cases h
  · rename_i xs
    obtain ⟨a, vs, rfl, hq, hr⟩ := h2
    cases ry
    exact in_any neg I hK R hu h h1 rx (.inr hq) hr q
  · rename_i n
    obtain ⟨a, rfl, hn⟩ := h2
    cases ry
    split at h
    · rename_i xs ho
      obtain ⟨vs, hq, hr⟩ := R.ob n a _ hn ho
      exact in_any neg I hK R hu h h1 rx (.inl (.of hq)) hr q
    · rename_i xs ho
      obtain ⟨vs, hq, hr⟩ := R.ob n a _ hn ho
      exact in_any neg I hK R hu h h1 rx (.inl (.of hq)) hr q
    · rename_i kvs ho
      obtain ⟨vs, hq, hr⟩ := R.ob n a _ hn ho
      split at h
      · rename_i k hk
        cases h
        have g : DGet H a x (valV vs k) := by
          rw [← key_v hk h1]
          exact DGet.k hq
        have e : (valV vs k).isSome = (valK k kvs).isSome := by
          rcases kv_val hr k with ⟨e1, e2⟩ | ⟨d, v', e1, e2, _⟩ <;> rw [e1, e2] <;> rfl
        cases neg with
        | true => exact d_notIn (by omega) I g rx fun s' I' => ⟨.bl _, H, I', rfl, by rw [e]; exact q⟩
        | false => exact d_in (by omega) I g rx fun s' I' => ⟨.bl _, H, I', rfl, by rw [e]; exact q⟩
      · split at h
        · rename_i he
          obtain ⟨k, hk, rfl⟩ := Option.map_eq_some_iff.mp h
          obtain ⟨b', rfl, hb⟩ := keysOf_v hk h1
          have e0 : kvs = [] := by simpa using he
          subst e0
          cases hr
          cases rx
          have I' := to_dt I hq
          have eb : SqT X.K (upd H a (dtO X.prog X.w a [])) b' (k.map kV) := sqt_upd hq trivial (by rw [hK]; exact hb)
          have back : ∀ s', L2.Inv X pins σ (upd H a (dtO X.prog X.w a [])) s' → L2.Inv X pins σ H s' := fun s' I2 => by
            have := to_dk I2 upd_same
            rw [upd_upd, upd_self hq] at this
            exact this
          cases neg with
          | true => exact dt_notIn (v := .none) (by omega) I' upd_same (fun _ z => nomatch z) eb fun s' I2 => ⟨.bl _, H, back s' I2, rfl, q⟩
          | false => exact dt_in (v := .none) (by omega) I' upd_same (fun _ z => nomatch z) eb fun s' I2 => ⟨.bl _, H, back s' I2, rfl, q⟩
        · cases h
    · rename_i kvs ho
      obtain ⟨P, xs, hq, hr, _⟩ := R.ob n a _ hn ho
      obtain ⟨k, hk, rfl⟩ := Option.map_eq_some_iff.mp h
      obtain ⟨b', rfl, hb⟩ := keysOf_v hk h1
      rw [← hw] at hq
      cases rx
      have hks : ∀ q ∈ xs, SqT X.K H q.2.1 (q.1.map kV) := fun q hq => by rw [hK]; exact dtr_keys hr q hq
      have e : (atKey xs k).isSome = (valK k kvs).isSome := by
        rcases dtr_val hr k with ⟨e1, e2⟩ | ⟨d, p, v', e1, e2, _⟩ <;> rw [e1, e2] <;> rfl
      cases neg with
      | true => exact dt_notIn (v := .none) (by omega) I hq hks (by rw [hK]; exact hb) fun s' I' => ⟨.bl _, H, I', rfl, by rw [e]; exact q⟩
      | false => exact dt_in (v := .none) (by omega) I hq hks (by rw [hK]; exact hb) fun s' I' => ⟨.bl _, H, I', rfl, by rw [e]; exact q⟩
    · cases h
  · cases h
theorem eqNil_at (I : L2.Inv X pins σ H s) (hK : X.K = W.K) (R : Rep W ι S H) {d1 d2 : D} {b : Bool} {x y : V} {v u : Value} {A : Around} (hu : A.units < cLine) (h : eqNil d1 d2 S = some b) (h1 : DV W ι H d1 x) (h2 : DV W ι H d2 y) (rx : RelV x v) (ry : RelV y u) : SeqAt.RcAt A s v u b ∧ SeqAt.RcNeAt A s v u (!b) := by
  unfold eqNil at h
  split at h
  · rename_i xs ys e1 e2
    split at h
    · rename_i hm
      cases h
      obtain ⟨a1, vs1, rfl, q1, r1⟩ := lst_sq R e1 h1
      obtain ⟨a2, vs2, rfl, q2, r2⟩ := lst_sq R e2 h2
      cases rx
      cases ry
      rw [← hK] at q1 q2
      obtain ⟨its1, rv1, p1, _⟩ := I.list q1
      obtain ⟨its2, rv2, p2, _⟩ := I.list q2
      have l1 : its1.length = xs.length := by rw [← rv1.length, DVs.length r1]
      have l2 : its2.length = ys.length := by rw [← rv2.length, DVs.length r2]
      cases xs with
      | nil =>
        have z1 : its1 = [] := List.eq_nil_of_length_eq_zero l1
        subst z1
        cases ys with
        | nil =>
          have z2 : its2 = [] := List.eq_nil_of_length_eq_zero l2
          subst z2
          exact ⟨SeqAt.RcAt.lists (e := fun _ => true) p1.isList p2.isList rfl hu fun j h => by simp at h, SeqAt.RcNeAt.lists (e := fun _ => true) p1.isList p2.isList rfl hu fun j h => by simp at h⟩
        | cons y ys =>
          have hz : ((#[] : Array Value).size != its2.toArray.size) = true := by
            rw [bne_iff_ne]
            rw [List.length_cons] at l2
            simp only [List.size_toArray, List.length_nil, Array.size_empty, l2]
            omega
          exact ⟨SeqAt.RcAt.lists_lengths p1.isList p2.isList hz hu, SeqAt.RcNeAt.lists_lengths p1.isList p2.isList hz hu⟩
      | cons x xs =>
        cases ys with
        | nil =>
          have z2 : its2 = [] := List.eq_nil_of_length_eq_zero l2
          subst z2
          have hz : (its1.toArray.size != (#[] : Array Value).size) = true := by
            rw [bne_iff_ne]
            rw [List.length_cons] at l1
            simp only [List.size_toArray, List.length_nil, Array.size_empty, l1]
            omega
          exact ⟨SeqAt.RcAt.lists_lengths p1.isList p2.isList hz hu, SeqAt.RcNeAt.lists_lengths p1.isList p2.isList hz hu⟩
        | cons y ys => cases hm
    · cases h
  · cases h
theorem cmp_ok (hK : X.K = W.K) (hw : X.w = W.w) (hu : X.A.units + 64 < cLine) (op : CmpOp) : OpR X (compareOp op) (rCmp W op) := by
  intro pins s σ H x y v u Q I rx ry h
  obtain ⟨ι, S, d1, d2, b, R, h1, h2, e, q⟩ := h
  cases op with
  | Eq =>
    simp only [cmpD, eqD] at e
    split at e
    · rename_i p p' hp hp'
      cases e
      obtain ⟨⟨as, z1⟩, n1, l1⟩ := data_at I hK R hp h1 rx
      obtain ⟨⟨bs, z2⟩, n2, l2⟩ := data_at I hK R hp' h2 ry
      exact rcR z1 z2 n1 n2 (by omega) _ _ _ _ (fin_b I q)
    · exact (eqNil_at I hK R (A := X.A) (by omega) e h1 h2 rx ry).1 _ _ _ _ (fin_b I q)
  | NotEq =>
    simp only [cmpD, eqD] at e
    split at e
    · rename_i p p' hp hp'
      cases e
      obtain ⟨⟨as, z1⟩, n1, l1⟩ := data_at I hK R hp h1 rx
      obtain ⟨⟨bs, z2⟩, n2, l2⟩ := data_at I hK R hp' h2 ry
      exact neR z1 z2 n1 n2 (by omega) _ _ _ _ (fin_b I q)
    · obtain ⟨b0, e0, rfl⟩ := Option.map_eq_some_iff.mp e
      exact (eqNil_at I hK R (A := X.A) (by omega) e0 h1 h2 rx ry).2 _ _ _ _ (fin_b I q)
  | Lt =>
    simp only [cmpD] at e
    split at e
    · cases e
      cases (show x = .int _ from h1)
      cases (show y = .int _ from h2)
      exact op_lt pins s σ H _ _ v u Q I rx ry ⟨_, _, rfl, rfl, q⟩
    · cases e
      cases (show x = .str _ from h1)
      cases (show y = .str _ from h2)
      exact op_lt_str pins s σ H _ _ v u Q I rx ry ⟨_, _, rfl, rfl, q⟩
    · cases e
  | LtE =>
    simp only [cmpD] at e
    split at e
    · cases e
      cases (show x = .int _ from h1)
      cases (show y = .int _ from h2)
      exact op_le pins s σ H _ _ v u Q I rx ry ⟨_, _, rfl, rfl, q⟩
    · cases e
      cases (show x = .str _ from h1)
      cases (show y = .str _ from h2)
      exact op_le_str pins s σ H _ _ v u Q I rx ry ⟨_, _, rfl, rfl, q⟩
    · cases e
  | Gt =>
    simp only [cmpD] at e
    split at e
    · cases e
      cases (show x = .int _ from h1)
      cases (show y = .int _ from h2)
      exact op_gt pins s σ H _ _ v u Q I rx ry ⟨_, _, rfl, rfl, q⟩
    · cases e
  | GtE =>
    simp only [cmpD] at e
    split at e
    · cases e
      cases (show x = .int _ from h1)
      cases (show y = .int _ from h2)
      exact op_ge pins s σ H _ _ v u Q I rx ry ⟨_, _, rfl, rfl, q⟩
    · cases e
  | Is =>
    simp only [cmpD] at e
    split at e
    · cases (show y = .non from h2)
      refine op_isN pins s σ H _ _ v u Q I rx ry ⟨rfl, ?_⟩
      have z : decide (x = V.non) = b := by
        cases d1 with
        | non => cases (show x = .non from h1); cases e; rfl
        | bl _ => cases (show x = .bl _ from h1); cases e; rfl
        | int _ => cases (show x = .int _ from h1); cases e; rfl
        | str _ => cases (show x = .str _ from h1); cases e; rfl
        | tup _ => obtain ⟨a, vs, rfl, _⟩ := h1; cases e; rfl
        | frl _ => obtain ⟨a, vs, rfl, _⟩ := h1; cases e; rfl
        | ref _ => obtain ⟨a, rfl, _⟩ := h1; cases e; rfl
        | fn _ => cases (show x = .ref _ from h1); cases e; rfl
        | lam _ _ => exact h1.elim
        | exc _ _ _ => obtain ⟨_, a, d, vx, oe, od, rfl, _⟩ := h1; cases e; rfl
        | exn _ => obtain ⟨_, a, oe, rfl, _⟩ := h1; cases e; rfl
      rw [z]
      exact q
    · cases e
  | IsNot =>
    simp only [cmpD] at e
    split at e
    · cases (show y = .non from h2)
      refine op_notN pins s σ H _ _ v u Q I rx ry ⟨rfl, ?_⟩
      have z : (!decide (x = V.non)) = b := by
        cases d1 with
        | non => cases (show x = .non from h1); cases e; rfl
        | bl _ => cases (show x = .bl _ from h1); cases e; rfl
        | int _ => cases (show x = .int _ from h1); cases e; rfl
        | str _ => cases (show x = .str _ from h1); cases e; rfl
        | tup _ => obtain ⟨a, vs, rfl, _⟩ := h1; cases e; rfl
        | frl _ => obtain ⟨a, vs, rfl, _⟩ := h1; cases e; rfl
        | ref _ => obtain ⟨a, rfl, _⟩ := h1; cases e; rfl
        | fn _ => cases (show x = .ref _ from h1); cases e; rfl
        | lam _ _ => exact h1.elim
        | exc _ _ _ => obtain ⟨_, a, d, vx, oe, od, rfl, _⟩ := h1; cases e; rfl
        | exn _ => obtain ⟨_, a, oe, rfl, _⟩ := h1; cases e; rfl
      rw [z]
      exact q
    · cases e
  | In => exact isIn_ok false I hK hw R hu e h1 h2 rx ry q
  | NotIn =>
    obtain ⟨c, e1, rfl⟩ := Option.map_eq_some_iff.mp e
    exact isIn_ok true I hK hw R hu e1 h1 h2 rx ry q
end
end PC
end
section
set_option Elab.async false
set_option linter.all false
set_option maxRecDepth 100000
set_option maxHeartbeats 4000000
/-! PC: sorted. -/
namespace PC
open PySem
theorem ltS_asym {x y : Str} (h : ltS x y = true) : ltS y x = false := by
  unfold ltS at *
  rw [decide_eq_true_eq] at h
  rw [decide_eq_false_iff_not]
  exact List.lt_asymm h
theorem ltS_tr {x y z : Str} (h1 : ltS y x = false) (h2 : ltS z y = false) : ltS z x = false := by
  unfold ltS at *
  rw [decide_eq_false_iff_not] at *
  exact List.not_lt.mpr (List.le_trans (List.not_lt.mp h1) (List.not_lt.mp h2))
theorem swo_str {α : Type} (k : α → Str) : SrtO.Swo fun v u : α => ltS (k v) (k u) :=
  ⟨fun x y h => ltS_asym h, fun x y z h1 h2 => ltS_tr h1 h2⟩
end PC
namespace SrtO
open PySem PyProof.Rows Srt
section
variable {prog : Program} {w : World} {A : Around} {E : Value → Shared → Prop} {s : Shared}
/-- a tuple whose first part is the text x -/
def IsTupS (h : Heap) (v : Value) (x : PySem.Str) : Prop := ∃ a o t r n, v = .ref a ∧ h.get? a = some o ∧ o.cls = .type "tuple" ∧ o.data = .seq (Value.str x t :: r).toArray n
theorem IsTupS.keeps {h h' : Heap} {v : Value} {x : PySem.Str} (p : IsTupS h v x) (k : ∀ b o, h.get? b = some o → o.cls = .type "tuple" → h'.get? b = some o) : IsTupS h' v x := by
  obtain ⟨a, o, t, r, n, e, ho, hc, hd⟩ := p
  exact ⟨a, o, t, r, n, e, k _ _ ho hc, hc, hd⟩
theorem kat_self {b : Bool} {Q : Bool → Shared → Prop} (h : Q false s) : ∀ (l : List Value) (i : Nat), PySem.W.KatLex prog w A b false Q (l.zip l) i s
  | [], i => PySem.W.kat_nil h
  | v :: l, i => PySem.W.kat_cons (SeqAt.EqAt.same v prog w _ _ (PySem.W.kat_yes (kat_self h l (i + 1))))
theorem tups_cmp {vs : List Value} {k : Value → PySem.Str} (hp : ∀ v ∈ vs, IsTupS s.heap v (k v)) (hd : ∀ v ∈ vs, ∀ u ∈ vs, k v = k u → v = u) : Cmp prog w A s (tuples' true) (fun p => p.1 ∈ vs) (lt2 fun v u => PC.ltS (k v) (k u)) := by
  intro p q hm hm'
  have h1 := hp _ hm
  have h2 := hp _ hm'
  have h3 := hd _ hm _ hm'
  show wpAny (model prog w) A (keyLt' (tuples' true) p.1 q.1) (fun r s' => s' = s ∧ r = PC.ltS (k p.1) (k q.1)) (fun _ _ => False) s
  by_cases hk : k p.1 = k q.1
  · have e := h3 hk
    rw [← e]
    obtain ⟨a, o, t, r, n, e1, ho, hc, hda⟩ := h1
    rw [e1]
    refine PySem.W.kat_lt ho hda ho hda ?_
    rw [show decide ((Value.str (k p.1) t :: r).toArray.size < (Value.str (k p.1) t :: r).toArray.size) = false from decide_eq_false (Nat.lt_irrefl _)]
    refine kat_self ⟨rfl, ?_⟩ _ _
    rw [← e1]
    exact (decide_eq_false (List.lt_irrefl _)).symm
  · generalize k p.1 = x at *
    generalize k q.1 = y at *
    obtain ⟨a, o, t, r, n, e, ho, hc, hda⟩ := h1
    obtain ⟨a', o', t', r', n', e', ho', hc', hda'⟩ := h2
    rw [e, e']
    refine PySem.W.kat_lt ho hda ho' hda' ?_
    refine PySem.W.kat_cons (SeqAt.EqAt.str_str x t y t' prog w _ _ ?_)
    have eb : (x == y) = false := beq_eq_false_iff_ne.mpr hk
    rw [eb]
    exact PySem.W.kat_no (oneLt_any_str ⟨rfl, rfl⟩)
theorem firstsS {h : Heap} : ∀ {vs : List Value}, (∀ v ∈ vs, ∃ x, IsTupS h v x) → ∃ fs : List Value, PySem.W.KatTups h vs fs ∧ fs.length = vs.length ∧ ∀ f ∈ fs, ∃ x t, f = Value.str x t
  | [], _ => ⟨[], PySem.W.KatTups.nil, rfl, fun _ hm => by simp at hm⟩
  | v :: vs, hp => by
    obtain ⟨fs, h1, h2, h3⟩ := firstsS (vs := vs) fun v' hm => hp v' (List.mem_cons_of_mem _ hm)
    obtain ⟨x, a, o, t, r, n, e, ho, hc, hd⟩ := hp v (List.mem_cons_self ..)
    subst e
    refine ⟨.str x t :: fs, PySem.W.KatTups.cons ho hc hd rfl h1, by rw [List.length_cons, List.length_cons, h2], fun f hm => ?_⟩
    rcases List.mem_cons.mp hm with rfl | hm
    · exact ⟨x, t, rfl⟩
    · exact h3 f hm
theorem tups_sortable {a : Addr} {vs : List Value} {k : Value → PySem.Str} (h0 : 0 < vs.length) (hp : ∀ v ∈ vs, IsTupS s.heap v (k v)) (hd : ∀ v ∈ vs, ∀ u ∈ vs, k v = k u → v = u) (ha : ∀ o, s.heap.get? a = some o → o.cls ≠ .type "tuple") : SortableO prog w A s a vs fun v u => PC.ltS (k v) (k u) := by
  intro h' keep
  have hp' : ∀ v ∈ vs, IsTupS h' v (k v) := fun v hm => (hp v hm).keeps fun b o e c => keep b o (fun z => by subst z; exact ha o e c) e
  obtain ⟨fs, h1, h2, h3⟩ := firstsS fun v hm => ⟨_, hp' v hm⟩
  refine ⟨tuples' true, fun Q E hq => ?_, tups_cmp hp' hd⟩
  refine PySem.W.kat_kind (T := .type "str") h1 (by omega) (fun f hm => ?_) (by rfl) ?_
  · obtain ⟨x, t, rfl⟩ := h3 f hm
    exact PySem.W.Looks.now
  · have e : (Value.type "str" != Value.type "tuple") = true := by first | decide +kernel | rfl | decide
    rw [e]
    exact hq
/-- sorted(l) of tuples whose first parts are unlike texts -/
theorem sorted_tups {l : Addr} {vs : List Value} {k : Value → PySem.Str} {Q : Value → Shared → Prop} (hl : s.heap.IsList l vs.toArray) (hz : vs.length ≤ sizeLine) (hp : ∀ v ∈ vs, IsTupS s.heap v (k v)) (hd : ∀ v ∈ vs, ∀ u ∈ vs, k v = k u → v = u)
    (h : ∀ (h' : Heap) (d : Addr) (out : List Value), Srtd (fun v u => PC.ltS (k v) (k u)) out → Stb (fun v u => PC.ltS (k v) (k u)) out vs → (∀ b o, s.heap.get? b = some o → h'.get? b = some o) → s.heap.objs.size ≤ d → (∃ n, h'.get? d = some (seqObj "list" out.toArray n)) → Q (.ref d) { s with heap := h' }) :
    wpAny (model prog w) A (call (.builtin "sorted") [.ref l]) Q E s := by
  refine sorted_ord (PC.swo_str k) hl hz (fun h2 h₁ a ha kk => ?_) fun out hs hb => ?_
  · refine tups_sortable (s := { s with heap := h₁ }) (by omega) (fun v hm => (hp v hm).keeps fun b o e _ => (kk b o e).2) hd fun o e => ?_
    have e' : some o = some (seqObj "list" vs.toArray 0) := e.symm.trans ha
    cases e'
    intro c
    exact absurd (Value.type.inj c) (by decide)
  · exact h _ _ out hs hb (fun b o e => sortedAll_old e) (Nat.le_succ _) (sortedAll_at s.heap vs out.toArray)
end
end SrtO

namespace PC
open PySem L2
/-! ### the one sorted list -/
section
variable {α : Type} {lt : α → α → Bool}
theorem insL_perm (x : α) : ∀ l : List α, (insL lt x l).Perm (x :: l)
  | [] => List.Perm.refl _
  | y :: r => by
    unfold insL
    split
    · exact List.Perm.refl _
    · exact ((insL_perm x r).cons y).trans (List.Perm.swap x y r)
theorem srtL_perm : ∀ l : List α, (srtL lt l).Perm l
  | [] => List.Perm.refl _
  | x :: r => (insL_perm x _).trans ((srtL_perm r).cons x)
theorem insL_srtd (O : SrtO.Swo lt) (x : α) : ∀ {l : List α}, SrtO.Srtd lt l → SrtO.Srtd lt (insL lt x l)
  | [], _ => SrtO.srtd_one x
  | y :: r, h => by
    unfold insL
    split
    · rename_i hx
      refine List.pairwise_cons.mpr ⟨fun z hz => ?_, h⟩
      exact O.asym _ _ (O.lt_all h hx z hz)
    · rename_i hx
      refine List.pairwise_cons.mpr ⟨fun z hz => ?_, insL_srtd O x (List.pairwise_cons.mp h).2⟩
      rcases List.mem_cons.mp ((insL_perm x r).mem_iff.mp hz) with e | hz
      · rw [e]
        exact Bool.not_eq_true _ ▸ hx
      · exact SrtO.srtd_head h z hz
theorem srtL_srtd (O : SrtO.Swo lt) : ∀ l : List α, SrtO.Srtd lt (srtL lt l)
  | [] => List.Pairwise.nil
  | x :: r => insL_srtd O x (srtL_srtd O r)
theorem srt_uniq (O : SrtO.Swo lt) {l m : List α} (hp : l.Perm m) (hs : SrtO.Srtd lt l) (ha : ∀ a ∈ m, ∀ b ∈ m, lt a b = false → lt b a = false → a = b) : l = srtL lt m :=
  List.Perm.eq_of_pairwise (le := fun x y => lt y x = false) (fun a b ha' hb' h1 h2 => ha a (hp.mem_iff.mp ha') b ((srtL_perm m).mem_iff.mp hb') h2 h1) hs (srtL_srtd O m) (hp.trans (srtL_perm m).symm)
end
theorem swo_int : SrtO.Swo ltI := ⟨fun x y h => by
    unfold ltI at *
    rw [decide_eq_true_eq] at h
    rw [decide_eq_false_iff_not]
    omega, fun x y z h1 h2 => by
    unfold ltI at *
    rw [decide_eq_false_iff_not] at *
    omega⟩
theorem swo_s : SrtO.Swo ltS := swo_str id
theorem cps_ext {x y : Str} (h : x.cps.toList = y.cps.toList) : x = y := by
  cases x
  cases y
  congr 1
  exact Array.toList_inj.mp h
theorem ltS_anti {x y : Str} (h1 : ltS x y = false) (h2 : ltS y x = false) : x = y := by
  unfold ltS at *
  rw [decide_eq_false_iff_not] at *
  exact cps_ext (List.le_antisymm (List.not_lt.mp h2) (List.not_lt.mp h1))
theorem srt_ints {l m : List Int} (hp : l.Perm m) (hs : l.Pairwise (· ≤ ·)) : l = srtL ltI m :=
  srt_uniq swo_int hp (hs.imp fun {a b} h => by unfold ltI; rw [decide_eq_false_iff_not]; omega) fun a _ b _ h1 h2 => by
    unfold ltI at *
    rw [decide_eq_false_iff_not] at *
    omega
theorem risingS_pw : ∀ (p : Str) (l : List Str), PyProof.Rows.risingS p l = true → (∀ y ∈ l, ltS y p = false) ∧ SrtO.Srtd ltS l
  | p, [], _ => ⟨fun y h => by simp at h, List.Pairwise.nil⟩
  | p, x :: r, h => by
    have h' : (!PySem.Spec.ltCps x.cps.toList p.cps.toList && PyProof.Rows.risingS x r) = true := h
    rw [Bool.and_eq_true, Bool.not_eq_true', PyProof.Rows.ltCps_eq] at h'
    obtain ⟨h1, h2⟩ := h'
    obtain ⟨k1, k2⟩ := risingS_pw x r h2
    refine ⟨fun y hy => ?_, List.pairwise_cons.mpr ⟨k1, k2⟩⟩
    rcases List.mem_cons.mp hy with e | hy
    · rw [e]
      exact h1
    · exact ltS_tr h1 (k1 y hy)
theorem sortedS_pw : ∀ {l : List Str}, PyProof.Rows.sortedS l = true → SrtO.Srtd ltS l
  | [], _ => List.Pairwise.nil
  | x :: r, h => by
    obtain ⟨k1, k2⟩ := risingS_pw x r h
    exact List.pairwise_cons.mpr ⟨k1, k2⟩
theorem srt_strs {l m : List Str} (hp : l.Perm m) (hs : PyProof.Rows.sortedS l = true) : l = srtL ltS m :=
  srt_uniq swo_s hp (sortedS_pw hs) fun a _ b _ h1 h2 => ltS_anti h1 h2
end PC
end
section
set_option Elab.async false
set_option linter.all false
set_option maxRecDepth 100000
set_option maxHeartbeats 1000000
namespace PC
open PySem L2
open PyProof.Rows (subscriptTail tail_any)
section
variable {W : Wd} {X : Cx} {ι : List Addr} {S : Sto} {H : Hp} {pins : List (Addr × Obj)} {σ : L2.St} {s : Shared}
theorem DVs.at {ds : List D} {vs : List V} (h : DVs W ι H ds vs) {i : Int} {d : D} (hd : atI ds i = some d) : ∃ v, atI vs i = some v ∧ DV W ι H d v := by
  unfold atI at hd ⊢
  rw [DVs.length h] at hd
  obtain ⟨j, hj, e⟩ := Option.bind_eq_some_iff.mp hd
  obtain ⟨v, e1, q⟩ := DVs.get h e
  exact ⟨v, by rw [hj]; exact e1, q⟩
def rIdx (W : Wd) : R2 := fun x y H Q => ∃ ι S d1 d2 d, Rep W ι S H ∧ DV W ι H d1 x ∧ DV W ι H d2 y ∧ idxD d1 d2 S = some d ∧ ∀ v, DV W ι H d v → Q v H
theorem idx_ok (hK : X.K = W.K) (hw : X.w = W.w) (hu : X.A.units + 64 < cLine) : IxR X (rIdx W) := by
  intro value slice pins s σ H x y v u Q I rx ry h hs
  obtain ⟨ι, S, d1, d2, d, R, h1, h2, e, g⟩ := h
  have lists : ∀ (a : Addr) (vs : List V) (xs : List D) (j : Int), x = .ref a → SqL W.K H a vs → DVs W ι H xs vs → d2 = .int j → atI xs j = some d → wpAny (model X.prog X.w) X.A (subscriptTail value slice v u) (EP X pins σ Q) X.xe s := by
    intro a vs xs j ea hq hx ed hj
    subst ea ed
    cases (show y = .int _ from h2)
    obtain ⟨w', e1, q⟩ := DVs.at hx hj
    exact ix_list value slice pins s σ H _ _ v u Q I rx ry ⟨a, vs, j, w', rfl, rfl, by rw [hK]; exact hq, e1, g w' q⟩ hs
  have dicts : ∀ (a : Addr) (vs : List (Key × V)) (kvs : List (Ky × D)), x = .ref a → Rd H a (.dK vs) → KVr W ι H kvs vs → RelV (.ref a) v → (match keyOf d2 with
      | some k => valK k kvs
      | none => none) = some d → wpAny (model X.prog X.w) X.A (subscriptTail value slice v u) (EP X pins σ Q) X.xe s := by
    intro a vs kvs ea hq hx rv e
    subst ea
    split at e
    · rename_i k hk
      rcases kv_val hx k with ⟨e1, _⟩ | ⟨d', v', e1, e2, q⟩
      · rw [e1] at e
        cases e
      · rw [e1] at e
        cases e
        cases rv
        have gg : DGet H a y (some v') := by
          rw [← key_v hk h2, ← e2]
          exact .inl ⟨_, k, hq, rfl, rfl⟩
        exact tail_any (dict_typeIs I gg) PySem.F.slot_dict_getitem.lookup (d_getItem (by omega) I gg ry fun w' s3 I3 rw' => ⟨v', H, I3, rw', g _ q⟩) hs
    · cases e
  unfold idxD at e
  split at e
  · rename_i xs j
    obtain ⟨a, vs, rfl, hq, hx⟩ := h1
    cases (show y = .int _ from h2)
    obtain ⟨w', e1, q⟩ := DVs.at hx e
    exact ix_tup value slice pins s σ H _ _ v u Q I rx ry ⟨a, vs, j, w', rfl, rfl, by rw [hK]; exact hq, e1, g w' q⟩ hs
  · rename_i xs j
    obtain ⟨a, vs, rfl, hq, hx⟩ := h1
    exact lists a vs xs j rfl (frl_sq hq) hx rfl e
  · rename_i z j
    split at e
    · rename_i hz
      obtain ⟨c, hc, rfl⟩ := Option.map_eq_some_iff.mp e
      cases (show x = .str _ from h1)
      cases (show y = .int _ from h2)
      exact ix_str value slice pins s σ H _ _ v u Q I rx ry ⟨z, j, c, rfl, rfl, by rw [← line_eq]; exact hz, hc, g _ rfl⟩ hs
    · cases e
  · rename_i n
    obtain ⟨a, rfl, hn⟩ := h1
    split at e
    · rename_i xs ho
      obtain ⟨vs, hq, hx⟩ := R.ob n a _ hn ho
      split at e
      · exact lists a vs xs _ rfl (.of hq) hx rfl e
      · cases e
    · rename_i xs ho
      obtain ⟨vs, hq, hx⟩ := R.ob n a _ hn ho
      split at e
      · exact lists a vs xs _ rfl (.of hq) hx rfl e
      · cases e
    · rename_i kvs ho
      obtain ⟨vs, hq, hx⟩ := R.ob n a _ hn ho
      exact dicts a vs kvs rfl (.inl hq) hx rx e
    · rename_i kvs ho
      obtain ⟨o, vs, hq, hx⟩ := R.ob n a _ hn ho
      exact dicts a vs kvs rfl (.inr ⟨o, hq⟩) hx rx e
    · rename_i kvs ho
      obtain ⟨P, xs, hq, hx, _⟩ := R.ob n a _ hn ho
      split at e
      · rename_i k hk
        obtain ⟨b', rfl, hb⟩ := keysOf_v hk h2
        rw [← hw] at hq
        rcases dtr_val hx k with ⟨e1, _⟩ | ⟨d', p, v', e1, e2, rv', q⟩
        · rw [e1] at e
          cases e
        · rw [e1] at e
          cases e
          cases rx
          cases ry
          have hks : ∀ q ∈ xs, SqT X.K H q.2.1 (q.1.map kV) := fun q hq => by rw [hK]; exact dtr_keys hx q hq
          exact tail_any (dt_typeIs I hq) PySem.F.slot_dict_getitem.lookup (dt_get (by omega) I hq hks (by rw [hK]; exact hb) e2 fun s3 I3 => ⟨v', H, I3, rv', g _ q⟩) hs
      · cases e
    · cases e
  · cases e
theorem DVs.cut {ds : List D} {vs : List V} (h : DVs W ι H ds vs) (lo hi : Option Int) : DVs W ι H (cutL ds lo hi) (cutV vs lo hi) := by
  unfold cutL cutV
  rw [DVs.length h]
  exact DVs.take _ (DVs.drop _ h)
def rSlc (W : Wd) : V → Option Int → Option Int → Hp → VK → Prop := fun x lo hi H Q => ∃ ι S d d' S', Rep W ι S H ∧ DV W ι H d x ∧ slcD d lo hi S = some (d', S') ∧ Gd W ι S H S' d' Q
theorem slc_ok (hK : X.K = W.K) : SlR X (rSlc W) := by
  intro pins s σ H x v vl vu lo hi sl Q I rx hs pl pu h
  obtain ⟨ι, S, d, d', S', R, h1, e, g⟩ := h
  have lists : ∀ (a : Addr) (vs : List V) (xs : List D), x = .ref a → SqL W.K H a vs → DVs W ι H xs vs → new (.lst (cutL xs lo hi)) S = some (d', S') → rSlL X.K x lo hi H Q := by
    intro a vs xs ea hq hx e
    cases e
    exact ⟨a, vs, ea, by rw [hK]; exact hq, fun p hp => g.lst R (DVs.cut hx lo hi) hp⟩
  unfold slcD at e
  split at e
  · rename_i xs
    cases e
    obtain ⟨a, vs, rfl, hq, hx⟩ := h1
    refine sl_tupA pins s σ H _ v vl vu lo hi sl Q I rx hs pl pu ⟨a, vs, rfl, by rw [hK]; exact hq, fun hw => ?_, fun _ p hp => g.tup R (DVs.cut hx lo hi) hp⟩
    refine g.here R ⟨a, vs, rfl, hq, ?_⟩
    have z := DVs.cut hx lo hi
    have e : cutV vs lo hi = vs := by
      unfold cutV
      rw [hw.1, hw.2, List.drop_zero, Nat.sub_zero, List.take_length]
    rw [e] at z
    exact z
  · rename_i xs
    obtain ⟨a, vs, rfl, hq, hx⟩ := h1
    exact sl_list pins s σ H _ v vl vu lo hi sl Q I rx hs pl pu (lists a vs xs rfl (frl_sq hq) hx e)
  · split at e
    · rename_i hz
      cases e
      cases (show x = .str _ from h1)
      exact sl_str pins s σ H _ v vl vu lo hi sl Q I rx hs pl pu ⟨_, rfl, by rw [← line_eq]; exact hz, g.here R rfl⟩
    · cases e
  · rename_i n
    obtain ⟨a, rfl, hn⟩ := h1
    split at e
    · rename_i xs ho
      obtain ⟨vs, hq, hx⟩ := R.ob n a _ hn ho
      exact sl_list pins s σ H _ v vl vu lo hi sl Q I rx hs pl pu (lists a vs xs rfl (.of hq) hx e)
    · rename_i xs ho
      obtain ⟨vs, hq, hx⟩ := R.ob n a _ hn ho
      exact sl_list pins s σ H _ v vl vu lo hi sl Q I rx hs pl pu (lists a vs xs rfl (.of hq) hx e)
    · cases e
  · cases e
/-- the built-in functions as values -/
def biV : Bi → Value
  | .len => .builtin "len"
  | .list => .type "list"
  | .tuple => .type "tuple"
  | .dict => .type "dict"
  | .int => .type "int"
  | .str => .type "str"
  | .repr => .builtin "repr"
  | .bool => .type "bool"
  | .sorted => .builtin "sorted"
  | .sum => .builtin "sum"
  | .all => .builtin "all"
  | .any => .builtin "any"
  | .max => .builtin "max"
  | .min => .builtin "min"
  | .set => .type "set"
  | .abs => .builtin "abs"
  | .ord => .builtin "ord"
  | .chr => .builtin "chr"
def rBi (W : Wd) (b : Bi) : List V → Hp → VK → Prop := fun xs H Q => ∃ ι S ds d S', Rep W ι S H ∧ DVs W ι H ds xs ∧ biD b ds S = some (d, S') ∧ Gd W ι S H S' d Q
theorem one_of {d : D} {xs : List V} (h : DVs W ι H [d] xs) : ∃ v, xs = [v] ∧ DV W ι H d v := by
  obtain ⟨v, r, e, q, t⟩ := h
  cases (show r = [] from t)
  exact ⟨v, e, q⟩
theorem two_of {d e : D} {xs : List V} (h : DVs W ι H [d, e] xs) : ∃ v w, xs = [v, w] ∧ DV W ι H d v ∧ DV W ι H e w := by
  obtain ⟨v, r, e, q, w, r', e', q', t⟩ := h
  cases (show r' = [] from t)
  subst e'
  exact ⟨v, w, e, q, q'⟩
theorem bools_of : ∀ {ds : List D} {vs : List V} {bs : List Bool}, optMap boolD ds = some bs → DVs W ι H ds vs → vs = bs.map V.bl
  | [], _, _, h, hv => by cases h; exact hv
  | d :: ds, _, _, h, ⟨v, r, e, q, t⟩ => by
    obtain ⟨y, ys, rfl, h1, h2⟩ := optMap_cons h
    subst e
    cases d with
    | bl b => cases h1; rw [show v = .bl _ from q, bools_of h2 t]; rfl
    | _ => cases h1
theorem ints_of : ∀ {ds : List D} {vs : List V} {bs : List Int}, optMap intD ds = some bs → DVs W ι H ds vs → vs = bs.map V.int
  | [], _, _, h, hv => by cases h; exact hv
  | d :: ds, _, _, h, ⟨v, r, e, q, t⟩ => by
    obtain ⟨y, ys, rfl, h1, h2⟩ := optMap_cons h
    subst e
    cases d with
    | int b => cases h1; rw [show v = .int _ from q, ints_of h2 t]; rfl
    | _ => cases h1
theorem strs_of : ∀ {ds : List D} {vs : List V} {bs : List Str}, optMap strD ds = some bs → DVs W ι H ds vs → vs = bs.map V.str
  | [], _, _, h, hv => by cases h; exact hv
  | d :: ds, _, _, h, ⟨v, r, e, q, t⟩ => by
    obtain ⟨y, ys, rfl, h1, h2⟩ := optMap_cons h
    subst e
    cases d with
    | str b => cases h1; rw [show v = .str _ from q, strs_of h2 t]; rfl
    | _ => cases h1
theorem put_map {κ : Type} [DecidableEq κ] {k : κ} {d : D} {v : V} (hd : DV W ι H d v) : ∀ {a : List (κ × D)} {b : List (κ × V)}, KVr W ι H a b →
    KVr W ι H (a.map fun kv => if kv.1 = k then (kv.1, d) else kv) (b.map fun kv => if kv.1 = k then (kv.1, v) else kv)
  | _, _, .nil => .nil
  | (j, x) :: a, (j', y) :: b, .cons h t => by
    obtain ⟨e, q⟩ := h
    cases (show j = j' from e)
    refine .cons ?_ (put_map hd t)
    show (if j = k then (j, d) else (j, x)).1 = (if j = k then (j, v) else (j, y)).1 ∧ DV W ι H (if j = k then (j, d) else (j, x)).2 (if j = k then (j, v) else (j, y)).2
    split
    · exact ⟨rfl, hd⟩
    · exact ⟨rfl, q⟩
theorem put_app {κ : Type} {k : κ} {d : D} {v : V} (hd : DV W ι H d v) : ∀ {a : List (κ × D)} {b : List (κ × V)}, KVr W ι H a b → KVr W ι H (a ++ [(k, d)]) (b ++ [(k, v)])
  | _, _, .nil => .cons ⟨rfl, hd⟩ .nil
  | _, _, .cons h t => .cons h (put_app hd t)
theorem put_kv {κ : Type} [DecidableEq κ] {k : κ} {d : D} {v : V} (hd : DV W ι H d v) {a : List (κ × D)} {b : List (κ × V)} (h : KVr W ι H a b) : KVr W ι H (putK k d a) (L2.putK b k v) := by
  have e : (a.any fun kv => decide (kv.1 = k)) = b.any fun kv => decide (kv.1 = k) := by
    induction h with
    | nil => rfl
    | cons h t ih => rw [List.any_cons, List.any_cons, ih, h.1]
  unfold putK L2.putK
  rw [e]
  split
  · exact put_map hd h
  · exact put_app hd h
theorem merge_kv : ∀ {ps : List (Ky × D)} {qs : List (Ky × V)} {a : List (Ky × D)} {b : List (Ky × V)}, KVr W ι H ps qs → KVr W ι H a b → KVr W ι H (ps.foldl (fun m kv => putK kv.1 kv.2 m) a) (L2.mergeK b qs)
  | _, _, _, _, .nil, h => h
  | _, _, _, _, .cons q t, h => by
    unfold L2.mergeK
    rw [List.foldl_cons, List.foldl_cons, ← q.1]
    exact merge_kv t (put_kv q.2 h)
theorem pairs_of : ∀ {ds : List D} {vs : List V} {kvs : List (Ky × D)}, optMap pairD ds = some kvs → DVs W ι H ds vs →
    ∃ (ps : List Addr) (qs : List (Ky × V)), vs = ps.map V.ref ∧ Paired (fun p (kv : Ky × V) => SqT W.K H p [kV kv.1, kv.2]) ps qs ∧ KVr W ι H kvs qs
  | [], _, _, h, hv => by cases h; exact ⟨[], [], hv, .nil, .nil⟩
  | d :: ds, _, _, h, ⟨v, r, e, q, t⟩ => by
    obtain ⟨y, ys, rfl, h1, h2⟩ := optMap_cons h
    subst e
    obtain ⟨ps, qs, e1, e2, e3⟩ := pairs_of h2 t
    unfold pairD at h1
    split at h1
    · obtain ⟨k, hk, rfl⟩ := Option.map_eq_some_iff.mp h1
      obtain ⟨a, us, rfl, hq, hu⟩ := q
      obtain ⟨w1, w2, rfl, q1, q2⟩ := two_of hu
      refine ⟨a :: ps, (k, w2) :: qs, by rw [e1]; rfl, .cons ?_ e2, .cons ⟨rfl, q2⟩ e3⟩
      rw [key_v hk q1]
      exact hq
    · cases h1
mutual
theorem noD_dict : ∀ p : PyData, noD p = true → p.hasDict = false
  | .none, _ => rfl
  | .bool _, _ => rfl
  | .int _, _ => rfl
  | .str _, _ => rfl
  | .list xs, h => noDs_dict xs h
  | .tuple xs, h => noDs_dict xs h
  | .dict _, h => nomatch h
theorem noDs_dict : ∀ ps : List PyData, noDs ps = true → PyData.hasDictAll ps = false
  | [], _ => rfl
  | p :: r, h => by
    obtain ⟨h1, h2⟩ := Bool.and_eq_true_iff.mp (show (noD p && noDs r) = true from h)
    show (p.hasDict || PyData.hasDictAll r) = false
    rw [noD_dict p h1, noDs_dict r h2]
    rfl
end
theorem alls_nil {h : Heap} {us : List Value} {as : List Addr} (r : ReadsAll h us [] as) : as = [] := by cases r; rfl
theorem tyis_ref {a : Addr} {T : String} {o : Obj} (e : s.heap.get? a = some o) (c : o.cls = .type T) : s.TypeIs (.ref a) T := ⟨o, e, c⟩
theorem repr_ok (hg : X.A.guards = some []) (hK : X.K = W.K) (hu : X.A.units + 200 < cLine) : CallR X (.builtin "repr") (rBi W .repr) := by
  intro pins s σ H xs us Q I r h
  obtain ⟨ι, S, ds, d, S', R, h1, e, g⟩ := h
  rcases ds with _ | ⟨d1, _ | ⟨d2, r3⟩⟩
  · cases e
  · obtain ⟨x, rfl, hx⟩ := one_of h1
    obtain ⟨u, rfl, rx⟩ := vals1 r
    simp only [biD, bi1, giv, Option.map_map, Option.map_eq_some_iff, Function.comp_apply] at e
    obtain ⟨z, e1, e2⟩ := e
    cases e2
    unfold reprD at e1
    split at e1
    · rename_i p hp
      split at e1
      · rename_i hc
        obtain ⟨c1, c2, c3⟩ := hc
        cases e1
        have c3 : (PyData.shown p).length ≤ sizeLine := by rw [← line_eq]; exact c3
        have q := g.here R (v := .str (PyData.shown p)) rfl
        obtain ⟨as, hr⟩ := reads_of I hK R 60 d1 x u p hp hx rx
        have fin : ∀ (h' : Heap) (t : Tok) (tk : Nat), (∀ b o, s.heap.get? b = some o → h'.get? b = some o) → EP X pins σ Q (.str (PyData.shown p) t) { s with heap := h', toks := tk } :=
          fun h' t tk hk => ⟨.str _, H, I.kept hk, ⟨_, rfl⟩, q⟩
        cases hr with
        | none => exact P.repr_of_none (fin _ _ _ fun _ _ z => z)
        | bool b => exact P.repr_of_bool (fin _ _ _ fun _ _ z => z)
        | int i t => exact P.repr_of_int (of_decide_eq_true c2) (fin _ _ _ fun _ _ z => z)
        | str y t => exact P.repr_of_str (fin _ _ _ fun _ _ z => z) c3
        | @list a o vs m xs as k1 k2 k3 k4 =>
          have n : noD (.list xs) = true := by
            unfold repOk at c1
            rw [Bool.or_false] at c1
            exact c1
          have dp := rdP_depth 60 d1 _ hp n
          exact repr_of_reads' (.list k1 k2 k3 k4) c2 (fun z => by rw [noD_dict _ n] at z; cases z) hg (by omega) (fun _ _ z => z) (fun h' t tk hk => fin h' t tk hk) c3
        | @tuple a o vs m xs as k1 k2 k3 k4 =>
          have n : noD (.tuple xs) = true := by
            unfold repOk at c1
            rw [Bool.or_false] at c1
            exact c1
          have dp := rdP_depth 60 d1 _ hp n
          exact repr_of_reads' (.tuple k1 k2 k3 k4) c2 (fun z => by rw [noD_dict _ n] at z; cases z) hg (by omega) (fun _ _ z => z) (fun h' t tk hk => fin h' t tk hk) c3
        | @dict a o es n kvs as bs k1 k2 k3 k4 k5 =>
          cases kvs with
          | cons _ _ => cases c1
          | nil =>
            have e1 := alls_nil k4
            have e2 := alls_nil k5
            subst e1 e2
            have ns : (a == sysModules) = false := by
              cases d1 with
              | ref m =>
                obtain ⟨a', rfl, hm⟩ := hx
                cases rx
                simp only [rdP] at hp
                split at hp
                · rename_i ho
                  obtain ⟨ps, _, e⟩ := Option.map_eq_some_iff.mp hp
                  cases e
                · rename_i ho
                  obtain ⟨ps, _, e⟩ := Option.map_eq_some_iff.mp hp
                  cases e
                · rename_i kvs ho
                  obtain ⟨vs, q1, _⟩ := R.ob m _ _ hm ho
                  obtain ⟨_, ns, _⟩ := I.hok _ _ q1
                  exact ns
                · cases hp
              | tup _ => obtain ⟨ps, _, e⟩ := Option.map_eq_some_iff.mp hp; cases e
              | frl _ => obtain ⟨ps, _, e⟩ := Option.map_eq_some_iff.mp hp; cases e
              | _ => cases hp
            refine repr_of_reads' (.dict k1 k2 k3 k4 k5) c2 (fun _ z => ?_) hg ?_ (fun _ _ z => z) (fun h' t tk hk => fin h' t tk hk) c3
            · have : sysModules = a := by simpa using z
              rw [this] at ns
              simp at ns
            · show X.A.units + (0 + 1 + 1) < cLine
              omega
      · cases e1
    · cases e1
  · rcases r3 with _ | ⟨d3, r3⟩
    · cases d1 <;> cases d2 <;> cases e
    · cases e
theorem KVr.length {κ : Type} : ∀ {a : List (κ × D)} {b : List (κ × V)}, KVr W ι H a b → a.length = b.length
  | _, _, .nil => rfl
  | _, _, .cons _ t => by rw [List.length_cons, List.length_cons, KVr.length t]
theorem bi_one {b : Bi} (f : ∀ (pins : List (Addr × Obj)) (s : Shared) (σ : L2.St) (H : Hp) (Q : VK) (ι : List Addr) (S : Sto) (d d' : D) (S' : Sto) (x : V) (us : List Value), L2.Inv X pins σ H s → Vals [x] us → Rep W ι S H → DV W ι H d x → bi1 b d S = some (d', S') → Gd W ι S H S' d' Q →
    wpAny (model X.prog X.w) X.A (PySem.call (biV b) us) (EP X pins σ Q) X.xe s) (hb : ∀ d e S, bi2 b d e S = none) : CallR X (biV b) (rBi W b) := by
  intro pins s σ H xs us Q I r h
  obtain ⟨ι, S, ds, d, S', R, h1, e, g⟩ := h
  rcases ds with _ | ⟨d1, _ | ⟨d2, _ | ⟨d3, r3⟩⟩⟩
  · cases e
  · obtain ⟨x, rfl, hx⟩ := one_of h1
    exact f pins s σ H Q ι S d1 d S' x us I r R hx e g
  · rw [show biD b [d1, d2] S = bi2 b d1 d2 S from rfl, hb] at e
    cases e
  · cases e
theorem giv_eq {o : Option D} {d : D} {S' : Sto} (h : giv o S = some (d, S')) : o = some d ∧ S' = S := by
  unfold giv at h
  obtain ⟨z, e1, e2⟩ := Option.map_eq_some_iff.mp h
  cases e2
  exact ⟨e1, rfl⟩
theorem len_ok (hK : X.K = W.K) : CallR X (.builtin "len") (rBi W .len) := by
  refine bi_one (b := .len) (fun pins s σ H Q ι S d d' S' x us I r R hx e g => ?_) fun d e S => by cases d <;> cases e <;> rfl
  replace e := giv_eq e
  obtain ⟨e, rfl⟩ := e
  replace e := Option.map_eq_some_iff.mp e
  obtain ⟨z, e, rfl⟩ := e
  have lists : ∀ (a : Addr) (vs : List V) (zs : List D), x = .ref a → SqL W.K H a vs ∨ SqT W.K H a vs → DVs W ι H zs vs → some (zs.length : Int) = some z → wpAny (model X.prog X.w) X.A (PySem.call (biV .len) us) (EP X pins σ Q) X.xe s := by
    intro a vs zs ex hq hz e
    cases e
    subst ex
    refine call_len_seq pins s σ H _ us Q I r ⟨a, vs, rfl, by rw [hK]; exact hq, ?_⟩
    rw [← DVs.length hz]
    exact g.here R rfl
  unfold lenD at e
  cases d with
  | tup zs => obtain ⟨a, vs, rfl, hq, hz⟩ := hx; exact lists a vs zs rfl (.inr hq) hz e
  | frl zs => obtain ⟨a, vs, rfl, hq, hz⟩ := hx; exact lists a vs zs rfl (.inl (frl_sq hq)) hz e
  | str y =>
    cases (show x = .str y from hx)
    simp only at e
    split at e
    · rename_i hz
      cases e
      exact call_len_str pins s σ H _ us Q I r ⟨y, rfl, by rw [← line_eq]; exact hz, g.here R rfl⟩
    · cases e
  | ref n =>
    obtain ⟨a, rfl, hn⟩ := hx
    simp only at e
    split at e
    · rename_i zs ho
      obtain ⟨vs, hq, hz⟩ := R.ob n a _ hn ho
      exact lists a vs zs rfl (.inl (.of hq)) hz e
    · rename_i zs ho
      obtain ⟨vs, hq, hz⟩ := R.ob n a _ hn ho
      exact lists a vs zs rfl (.inl (.of hq)) hz e
    · rename_i kvs ho
      obtain ⟨vs, hq, hz⟩ := R.ob n a _ hn ho
      cases e
      refine call_lenD pins s σ H _ us Q I r ⟨a, vs, rfl, hq, ?_⟩
      rw [← KVr.length hz]
      exact g.here R rfl
    · cases e
  | _ => cases e
/-! ### sorted -/
theorem dvs_ints (ns : List Int) : DVs W ι H (ns.map D.int) (ns.map V.int) := by
  induction ns with
  | nil => rfl
  | cons n ns ih => exact ⟨_, _, rfl, rfl, ih⟩
theorem dvs_strs (ns : List Str) : DVs W ι H (ns.map D.str) (ns.map V.str) := by
  induction ns with
  | nil => rfl
  | cons n ns ih => exact ⟨_, _, rfl, rfl, ih⟩
theorem insL_paired {α β : Type} {F : α → β → Prop} {f : α → α → Bool} {g : β → β → Bool} (hf : ∀ a b a' b', F a b → F a' b' → f a a' = g b b') {x : α} {y : β} (hx : F x y) : ∀ {l : List α} {m : List β}, Paired F l m → Paired F (insL f x l) (insL g y m)
  | _, _, .nil => .cons hx .nil
  | _, _, .cons (a := a) (b := b) h t => by
    unfold insL
    rw [hf x y a b hx h]
    split
    · exact .cons hx (.cons h t)
    · exact .cons h (insL_paired hf hx t)
theorem srtL_paired {α β : Type} {F : α → β → Prop} {f : α → α → Bool} {g : β → β → Bool} (hf : ∀ a b a' b', F a b → F a' b' → f a a' = g b b') : ∀ {l : List α} {m : List β}, Paired F l m → Paired F (srtL f l) (srtL g m)
  | _, _, .nil => .nil
  | _, _, .cons h t => insL_paired hf h (srtL_paired hf t)
/-- a tuple's first text, read off the heap -/
noncomputable def keyH (h : Heap) (v : Value) : Str := open Classical in if p : ∃ x, SrtO.IsTupS h v x then p.choose else ⟨#[]⟩
theorem isTupS_inj {h : Heap} {v : Value} {x y : Str} (h1 : SrtO.IsTupS h v x) (h2 : SrtO.IsTupS h v y) : x = y := by
  obtain ⟨a, o, t, r, n, e, ho, hc, hd⟩ := h1
  obtain ⟨a', o', t', r', n', e', ho', hc', hd'⟩ := h2
  rw [e] at e'
  cases e'
  rw [ho] at ho'
  cases ho'
  rw [hd] at hd'
  have q := (Data.seq.inj hd').1
  have q2 : Value.str x t :: r = Value.str y t' :: r' := by simpa using q
  cases (List.cons.inj q2).1
  rfl
theorem keyH_of {h : Heap} {v : Value} {x : Str} (p : SrtO.IsTupS h v x) : keyH h v = x := by
  have e : ∃ x, SrtO.IsTupS h v x := ⟨x, p⟩
  unfold keyH
  rw [dif_pos e]
  exact isTupS_inj e.choose_spec p
/-- a tuple and its value -/
def TupP (W : Wd) (ι : List Addr) (H : Hp) (h : Heap) (d : D) (v : Value) : Prop := (∃ x, fstS d = some x ∧ SrtO.IsTupS h v x) ∧ DV W ι H d (backV v)
theorem fstS_some {d : D} {x : Str} (h : fstS d = some x) : ∃ r, d = .tup (.str x :: r) := by
  unfold fstS at h
  split at h
  · cases h
    exact ⟨_, rfl⟩
  · cases h
theorem tupP_of {pins : List (Addr × Obj)} {σ : L2.St} {s : Shared} (hK : X.K = W.K) (I : L2.Inv X pins σ H s) {d : D} {x : Str} {v : V} {u : Value} (h : fstS d = some x) (hv : DV W ι H d v) (r : RelV v u) : TupP W ι H s.heap d u := by
  obtain ⟨l, rfl⟩ := fstS_some h
  have hv0 := hv
  obtain ⟨t, vs, rfl, q, hd⟩ := hv
  obtain ⟨v1, vr, rfl, h1, h2⟩ := hd
  cases (show v1 = .str x from h1)
  obtain rfl : u = Value.ref t := r
  obtain ⟨its, rv, ⟨o, ho, hc, n, hda⟩, _⟩ := I.tuple (hK ▸ q)
  cases rv with
  | cons r1 rt =>
    obtain ⟨k, rfl⟩ := r1
    exact ⟨⟨x, h, t, o, k, _, n, rfl, ho, hc, hda⟩, hv0⟩
theorem tupPs {pins : List (Addr × Obj)} {σ : L2.St} {s : Shared} (hK : X.K = W.K) (I : L2.Inv X pins σ H s) : ∀ {ds : List D} {ks : List Str} {vs : List V} {us : List Value}, optMap fstS ds = some ks → DVs W ι H ds vs → Vals vs us → Paired (TupP W ι H s.heap) ds us ∧ us.map (keyH s.heap) = ks ∧ (∀ x ∈ vs, ∃ a, x = V.ref a)
  | [], _, _, _, h, hd, r => by
    cases h
    cases (show _ = [] from hd)
    cases r
    exact ⟨.nil, rfl, fun x hx => by simp at hx⟩
  | d :: ds, _, _, _, h, ⟨v, vr, e, hv, hd⟩, r => by
    subst e
    obtain ⟨x, ks, rfl, h1, h2⟩ := optMap_cons h
    cases r with
    | cons r1 rt =>
      have p := tupP_of hK I h1 hv r1
      obtain ⟨k1, k2, k3⟩ := tupPs hK I h2 hd rt
      obtain ⟨y, hy, hy2⟩ := p.1
      rw [h1] at hy
      cases hy
      refine ⟨.cons p k1, by rw [List.map_cons, k2, keyH_of hy2], fun z hz => ?_⟩
      rcases List.mem_cons.mp hz with rfl | hz
      · obtain ⟨l, rfl⟩ := fstS_some h1
        obtain ⟨t, _, e, _⟩ := hv
        exact ⟨t, e⟩
      · exact k3 z hz
theorem inj_of_nodup {α β : Type} {k : α → β} : ∀ {l : List α}, (l.map k).Nodup → ∀ a ∈ l, ∀ b ∈ l, k a = k b → a = b
  | [], _, a, ha, _, _, _ => by simp at ha
  | x :: l, h, a, ha, b, hb, e => by
    rw [List.map_cons, List.nodup_cons] at h
    rcases List.mem_cons.mp ha with ea | ha <;> rcases List.mem_cons.mp hb with eb | hb
    · rw [ea, eb]
    · exact absurd (List.mem_map.mpr ⟨b, hb, by rw [← e, ea]⟩) h.1
    · exact absurd (List.mem_map.mpr ⟨a, ha, by rw [e, eb]⟩) h.1
    · exact inj_of_nodup h.2 a ha b hb e
theorem flip_ix {α β : Type} {F : α → β → Prop} : ∀ {l : List α} {m : List β}, Paired F l m → ∀ b ∈ m, ∃ a, F a b
  | _, _, .nil, b, h => by simp at h
  | _, _, .cons h t, b, hb => by
    rcases List.mem_cons.mp hb with e | hb
    · rw [e]
      exact ⟨_, h⟩
    · exact flip_ix t b hb
theorem tupP_dvs {h : Heap} : ∀ {ds : List D} {us : List Value}, Paired (TupP W ι H h) ds us → DVs W ι H ds (us.map backV) ∧ ∀ u ∈ us, ∃ a, u = Value.ref a
  | _, _, .nil => ⟨rfl, fun u hu => by simp at hu⟩
  | _, _, .cons p t => by
    obtain ⟨k1, k2⟩ := tupP_dvs t
    refine ⟨⟨_, _, rfl, p.2, k1⟩, fun u hu => ?_⟩
    rcases List.mem_cons.mp hu with rfl | hu
    · obtain ⟨⟨x, _, a, o, _, _, _, e, _⟩, _⟩ := p
      exact ⟨a, e⟩
    · exact k2 u hu
theorem tupP_lt {h : Heap} (a : D) (b : Value) (a' : D) (b' : Value) (p : TupP W ι H h a b) (q : TupP W ι H h a' b') : ltS (keyT a) (keyT a') = ltS (keyH h b) (keyH h b') := by
  obtain ⟨⟨x, h1, h2⟩, _⟩ := p
  obtain ⟨⟨y, h3, h4⟩, _⟩ := q
  rw [keyH_of h2, keyH_of h4]
  unfold keyT
  rw [h1, h3]
  rfl
theorem srt_list {pins : List (Addr × Obj)} {σ : L2.St} {s : Shared} {Q : VK} {xs ys : List D} {a : Addr} {vs : List V} {us : List Value} (hK : X.K = W.K) (I : L2.Inv X pins σ H s) (r : Vals [V.ref a] us) (R : Rep W ι S H) (hq : SqL W.K H a vs) (hz : DVs W ι H xs vs) (e : srtD xs = some ys) (g : Gd W ι S H (S ++ [.lst ys]) (.ref S.length) Q) :
    wpAny (model X.prog X.w) X.A (PySem.call (.builtin "sorted") us) (EP X pins σ Q) X.xe s := by
  unfold srtD at e
  split at e
  · rename_i ns hn
    cases e
    have ev := ints_of hn hz
    subst ev
    refine cr_sortedI pins s σ H _ us Q I r ⟨a, ns, rfl, by rw [hK]; exact hq, fun ns' p hp hs hn => ?_⟩
    rw [srt_ints hp hs]
    exact g.lst R (dvs_ints _) hn
  · split at e
    · rename_i ts ht
      split at e
      · rename_i h64
        cases e
        have ev := strs_of ht hz
        subst ev
        refine cr_sortedS pins s σ H _ us Q I r ⟨a, ts, rfl, by rw [hK]; exact hq, h64, fun ns' p hp hs hn => ?_⟩
        rw [srt_strs hp hs]
        exact g.lst R (dvs_strs _) hn
      · cases e
    · split at e
      · rename_i ks hk
        split at e
        · rename_i hw
          cases e
          obtain ⟨its, rv, hl, hlen⟩ := I.list (hK ▸ hq)
          obtain ⟨k1, k2, k3⟩ := tupPs hK I hk hz rv
          obtain ⟨q1, q2⟩ := tupP_dvs k1
          rw [Vals.ref1 r]
          have hd : ∀ v ∈ its, ∀ u ∈ its, keyH s.heap v = keyH s.heap u → v = u := inj_of_nodup (by rw [k2]; exact hw.1)
          have hp : ∀ v ∈ its, SrtO.IsTupS s.heap v (keyH s.heap v) := fun v hv => by
            obtain ⟨y, ⟨⟨x, _, h2⟩, _⟩⟩ := flip_ix k1 v hv
            rw [keyH_of h2]
            exact h2
          refine SrtO.sorted_tups (k := keyH s.heap) hl.isList (by rw [← rv.length]; exact hlen) hp hd fun h' d out hs hb kp hdd hn => ?_
          have eo : out = srtL (fun v u => ltS (keyH s.heap v) (keyH s.heap u)) its := srt_uniq (swo_str _) hb.perm hs fun v hv u hu h1 h2 => hd v hv u hu (ltS_anti h1 h2)
          have pp := srtL_paired (f := fun a b => ltS (keyT a) (keyT b)) (g := fun v u => ltS (keyH s.heap v) (keyH s.heap u)) tupP_lt k1
          rw [← eo] at pp
          obtain ⟨p1, p2⟩ := tupP_dvs pp
          obtain ⟨n, hn⟩ := hn
          refine ⟨.ref d, upd H d (.lst (out.map backV)), I.laid (t' := s.toks) kp hdd ⟨?_, out, n, vals_back p2, hn⟩, rfl, g.lst R p1 (I.hok.fresh hdd)⟩
          rw [List.length_map, hb.len, ← rv.length]
          exact hlen
        · cases e
      · cases e
theorem kyS_some {k : Ky} {x : Str} (h : kyS k = some x) : k = .inr x := by
  cases k with
  | inl i => cases h
  | inr y => cases h; rfl
theorem kys_of {ι : List Addr} {H : Hp} : ∀ {kvs : List (Ky × D)} {ws : List (Ky × V)} {ts : List Str}, Paired (fun (p : Ky × D) (q : Ky × V) => p.1 = q.1 ∧ DV W ι H p.2 q.2) kvs ws → optMap kyS (kvs.map (·.1)) = some ts → ws.map (·.1) = ts.map Sum.inr
  | _, _, ts, .nil, h => by
    cases h
    rfl
  | _, _, ts, .cons (a := p) (b := q) h1 t, h => by
    obtain ⟨y, r, rfl, e1, e2⟩ := optMap_cons (show optMap kyS (p.1 :: _) = some ts from h)
    have ih := kys_of t e2
    rw [List.map_cons, ih, ← h1.1, kyS_some e1]
    rfl
theorem bi_ok (hg : X.A.guards = some []) (hc : X.calm = true) (hK : X.K = W.K) (hu : X.A.units + 200 < cLine) (b : Bi) : CallR X (biV b) (rBi W b) := by
  cases b with
  | len => exact len_ok hK
  | repr => exact repr_ok hg hK hu
  | tuple =>
    refine bi_one (b := .tuple) (fun pins s σ H Q ι S d d' S' x us I r R hx e g => ?_) fun d e S => by cases d <;> cases e <;> rfl
    replace e := giv_eq e
    obtain ⟨e, rfl⟩ := e
    unfold tupD at e
    cases d with
    | tup zs =>
      obtain ⟨a, vs, rfl, hq, hz⟩ := hx
      cases e
      exact call_tuple_of pins s σ H _ us Q I r ⟨a, vs, rfl, .inr ⟨by rw [hK]; exact hq, g.here R ⟨a, vs, rfl, hq, hz⟩⟩⟩
    | ref n =>
      obtain ⟨a, rfl, hn⟩ := hx
      simp only at e
      split at e
      · rename_i zs ho
        obtain ⟨vs, hq, hz⟩ := R.ob n a _ hn ho
        cases e
        exact call_tuple_of pins s σ H _ us Q I r ⟨a, vs, rfl, .inl ⟨.of hq, fun p hp => g.tup R hz hp⟩⟩
      · rename_i zs ho
        obtain ⟨vs, hq, hz⟩ := R.ob n a _ hn ho
        cases e
        exact call_tuple_of pins s σ H _ us Q I r ⟨a, vs, rfl, .inl ⟨.of hq, fun p hp => g.tup R hz hp⟩⟩
      · cases e
    | _ => cases e
  | dict =>
    refine bi_one (b := .dict) (fun pins s σ H Q ι S d d' S' x us I r R hx e g => ?_) fun d e S => by cases d <;> cases e <;> rfl
    unfold bi1 dicD at e
    simp only at e
    split at e
    · rename_i kvs hk
      obtain ⟨zs, h1, h2⟩ := Option.bind_eq_some_iff.mp hk
      cases e
      obtain ⟨a, vs, rfl, hq, hz⟩ := lst_sq R h1 hx
      obtain ⟨ps, qs, rfl, e2, e3⟩ := pairs_of h2 hz
      exact call_dictP hc pins s σ H _ us Q I r ⟨a, ps, qs, rfl, by rw [hK]; exact hq, by rw [hK]; exact e2, fun p hp => g.dk R (merge_kv e3 .nil) hp⟩
    · split at e
      · rename_i n _
        split at e
        · rename_i kvs hk
          cases e
          obtain ⟨a, rfl, hn⟩ := hx
          obtain ⟨vs, hq, hz⟩ := R.ob n a _ hn hk
          exact call_dictD pins s σ H _ us Q I r ⟨a, vs, rfl, .of hq, fun p hp => g.dk R hz hp⟩
        · cases e
      · cases e
  | int =>
    refine bi_one (b := .int) (fun pins s σ H Q ι S d d' S' x us I r R hx e g => ?_) fun d e S => by cases d <;> cases e <;> rfl
    replace e := giv_eq e
    obtain ⟨e, rfl⟩ := e
    cases d with
    | int i =>
      cases (show x = .int i from hx)
      cases e
      exact call_int1 pins s σ H _ us Q I r (.inl ⟨i, rfl, g.here R rfl⟩)
    | bl k =>
      cases (show x = .bl k from hx)
      cases e
      exact call_int1 pins s σ H _ us Q I r (.inr ⟨k, rfl, g.here R rfl⟩)
    | _ => cases e
  | str =>
    refine bi_one (b := .str) (fun pins s σ H Q ι S d d' S' x us I r R hx e g => ?_) fun d e S => by cases d <;> cases e <;> rfl
    replace e := giv_eq e
    obtain ⟨e, rfl⟩ := e
    cases d with
    | int i =>
      cases (show x = .int i from hx)
      simp only at e
      split at e
      · rename_i hz
        cases e
        exact call_str_int pins s σ H _ us Q I r ⟨i, rfl, hz, g.here R rfl⟩
      · cases e
    | _ => cases e
  | all =>
    refine bi_one (b := .all) (fun pins s σ H Q ι S d d' S' x us I r R hx e g => ?_) fun d e S => by cases d <;> cases e <;> rfl
    replace e := giv_eq e
    obtain ⟨e, rfl⟩ := e
    replace e := Option.map_eq_some_iff.mp e
    obtain ⟨bs, e, rfl⟩ := e
    obtain ⟨zs, e1, e2⟩ := Option.bind_eq_some_iff.mp e
    obtain ⟨a, vs, rfl, hq, hz⟩ := lst_sq R e1 hx
    rw [bools_of e2 hz] at hq
    exact cr_all hc pins s σ H _ us Q I r ⟨a, bs, rfl, by rw [hK]; exact hq, g.here R rfl⟩
  | any =>
    refine bi_one (b := .any) (fun pins s σ H Q ι S d d' S' x us I r R hx e g => ?_) fun d e S => by cases d <;> cases e <;> rfl
    replace e := giv_eq e
    obtain ⟨e, rfl⟩ := e
    replace e := Option.map_eq_some_iff.mp e
    obtain ⟨bs, e, rfl⟩ := e
    obtain ⟨zs, e1, e2⟩ := Option.bind_eq_some_iff.mp e
    obtain ⟨a, vs, rfl, hq, hz⟩ := lst_sq R e1 hx
    rw [bools_of e2 hz] at hq
    exact cr_any hc pins s σ H _ us Q I r ⟨a, bs, rfl, by rw [hK]; exact hq, g.here R rfl⟩
  | sum =>
    refine bi_one (b := .sum) (fun pins s σ H Q ι S d d' S' x us I r R hx e g => ?_) fun d e S => by cases d <;> cases e <;> rfl
    replace e := giv_eq e
    obtain ⟨e, rfl⟩ := e
    replace e := Option.map_eq_some_iff.mp e
    obtain ⟨bs, e, rfl⟩ := e
    obtain ⟨zs, e1, e2⟩ := Option.bind_eq_some_iff.mp e
    obtain ⟨a, vs, rfl, hq, hz⟩ := lst_sq R e1 hx
    rw [ints_of e2 hz] at hq
    exact cr_sum hc pins s σ H _ us Q I r ⟨a, bs, rfl, by rw [hK]; exact hq, g.here R rfl⟩
  | abs =>
    refine bi_one (b := .abs) (fun pins s σ H Q ι S d d' S' x us I r R hx e g => ?_) fun d e S => by cases d <;> cases e <;> rfl
    replace e := giv_eq e
    obtain ⟨e, rfl⟩ := e
    replace e := Option.map_eq_some_iff.mp e
    obtain ⟨i, e, rfl⟩ := e
    cases d with
    | int j =>
      cases (show x = .int j from hx)
      cases e
      exact call_abs pins s σ H _ us Q I r ⟨i, rfl, g.here R rfl⟩
    | _ => cases e
  | sorted =>
    refine bi_one (b := .sorted) (fun pins s σ H Q ι S d d' S' x us I r R hx e g => ?_) fun d e S => by cases d <;> cases e <;> rfl
    unfold bi1 at e
    simp only at e
    split at e
    · rename_i ys hy
      cases e
      unfold srtO at hy
      cases d with
      | ref n =>
        obtain ⟨a, rfl, hn⟩ := hx
        simp only at hy
        split at hy
        · rename_i zs ho
          obtain ⟨vs, hq, hz⟩ := R.ob n a _ hn ho
          exact srt_list hK I r R (.of hq) hz hy g
        · rename_i zs ho
          obtain ⟨vs, hq, hz⟩ := R.ob n a _ hn ho
          exact srt_list hK I r R (.of hq) hz hy g
        · rename_i kvs ho
          obtain ⟨ws, hq, hz⟩ := R.ob n a _ hn ho
          split at hy
          · rename_i ts ht
            split at hy
            · rename_i h64
              cases hy
              refine call_sortedD hc pins s σ H _ us Q I r ⟨a, ws, ts, rfl, .of hq, kys_of hz ht, h64, fun ys p hp hs hn => ?_⟩
              rw [srt_strs hp hs]
              exact g.lst R (dvs_strs _) hn
            · cases hy
          · cases hy
        · cases hy
      | _ => cases hy
    · cases e
  | max =>
    intro pins s σ H xs us Q I r h
    obtain ⟨ι, S, ds, d, S', R, h1, e, g⟩ := h
    rcases ds with _ | ⟨d1, _ | ⟨d2, _ | ⟨_, _⟩⟩⟩
    · cases e
    · cases e
    · obtain ⟨x, y, rfl, hx, hy⟩ := two_of h1
      cases d1 <;> cases d2 <;> first
        | (cases e; done)
        | (cases (show x = .int _ from hx); cases (show y = .int _ from hy); cases e; exact call_max2 hc pins s σ H _ us Q I r ⟨_, _, rfl, g.here R rfl⟩)
    · cases e
  | min =>
    intro pins s σ H xs us Q I r h
    obtain ⟨ι, S, ds, d, S', R, h1, e, g⟩ := h
    rcases ds with _ | ⟨d1, _ | ⟨d2, _ | ⟨_, _⟩⟩⟩
    · cases e
    · cases e
    · obtain ⟨x, y, rfl, hx, hy⟩ := two_of h1
      cases d1 <;> cases d2 <;> first
        | (cases e; done)
        | (cases (show x = .int _ from hx); cases (show y = .int _ from hy); cases e; exact call_min2 hc pins s σ H _ us Q I r ⟨_, _, rfl, g.here R rfl⟩)
    · cases e
  | _ => exact bi_one (fun pins s σ H Q ι S d d' S' x us I r R hx e g => by cases e) fun d e S => by cases d <;> cases e <;> rfl
end
end PC
end
section
set_option Elab.async false
set_option linter.all false
set_option maxRecDepth 100000
set_option maxHeartbeats 1000000
/-! PC: calls of defs, where nothing is being shown (repr) around. -/
namespace PC
open PySem L2

/-- what a def promises: at most k levels of calls within -/
structure FnG (P : Program) (w : World) (K : PySem.W.Frag) (mg : Str → Option Value) (base : Heap) (k : Nat) (f : Addr) (fd : FuncData) (ps : List Str) (sp : List V → Hp → VK → Prop) : Prop where
  len : ∀ vs H Q, sp vs H Q → vs.length = ps.length
  run : ∀ (A : Around) (outer : List Env) (s : Shared) (H : Hp) (args : Args) (us : List Value) (vs : List V) (Q : VK), Room k A → A.guards = some [] → Env0 P w K mg base A outer s H → BindsTo s fd args (ps.zip us) → Vals vs us → sp vs H Q →
    codeAny (model P w) A (.call (.ref f) args) (CR CX0 outer P w H s Q E0) s

section
variable {X : Cx} {k : Nat} {f : Addr} {fd : FuncData} {ps : List Str} {sp : List V → Hp → VK → Prop} {x : Str} {p pos : Pos} {e : Expr} {es : List Expr} {t : TA}
theorem back_any {env : Env} {pos : Pos} : ∀ {es : List Expr}, es.all notStar = true → (backTo pos (starEach es env)).any (·.1) = false
  | [], _ => rfl
  | e :: r, h => by
    rw [List.all_cons, Bool.and_eq_true] at h
    have ih := back_any (env := env) (pos := pos) h.2
    cases e <;> first
      | exact ih
      | cases h.1
theorem star_cons {env : Env} (h : notStar e = true) : starEach (e :: es) env = (false, eval e env) :: starEach es env := by
  cases e <;> first
    | rfl
    | cases h
/-- the call's end, in the caller's hand -/
theorem back_fn {pins : List (Addr × Obj)} {σ : L2.St} {H : Hp} {s : Shared} {Q : VK} (I : L2.Inv X pins σ H s) {r : Result} {s' : Shared} (h : CR CX0 X.stack X.prog X.w H s Q E0 r s') : ∃ u, r = .ok (.ret u) ∧ EP X pins σ Q u s' := by
  rcases r with e | (_ | _ | _ | u)
  · exact False.elim h
  · exact False.elim h
  · exact False.elim h
  · exact False.elim h
  · exact ⟨u, rfl, I.after h⟩
theorem run_fnG {pins : List (Addr × Obj)} {σ : L2.St} {H : Hp} {s : Shared} {Q : VK} {us : List Value} {vs : List V} (F : FnG X.prog X.w X.K X.mg X.base k f fd ps sp) (hr : Room k X.A) (hg : X.A.guards = some []) (hb : Binds X.K fd ps [])
    (I : L2.Inv X pins σ H s) (r : Vals vs us) (h : sp vs H Q) : wpAny (model X.prog X.w) X.A (PySem.call (.ref f) us) (EP X pins σ Q) X.xe s := by
  have hl : (us ++ []).length = ps.length := by rw [List.append_nil, ← r.length, F.len _ _ _ h]
  have b := hb s us I.kIn hl
  rw [List.append_nil] at b
  refine wpAny_call (codeAny_mono (F.run X.A X.stack s H ⟨us, []⟩ us vs Q hr hg I.env0 b r h) fun r s' hq => ?_)
  obtain ⟨u, rfl, q⟩ := back_fn I hq
  exact q
theorem pe_callG (F : FnG X.prog X.w X.K X.mg X.base k f fd ps sp) (hr : Room k X.A) (hgd : X.A.guards = some []) (hg : Gl X x) (hm : X.mg x = some (.ref f)) (hk : PySem.W.keepIn X.K (.ref f) = true) (hb : Binds X.K fd ps [])
    (ha : PA X (e :: es) t) (hs : (e :: es).all notStar = true) (hdb : (x == ("__debug__" : Str)) = false) : PE X (.Call (.Name x p) (e :: es) [] pos) (tCB sp t) := by
  refine ⟨fun pins s σ H Q I h => wpAny_Call_Name_kw (ld_glob I hg hm ?_ hdb)⟩
  rw [List.all_cons, Bool.and_eq_true] at hs
  refine PySem.W.callWith_K (h₀ := X.base) I.ok.mod.kin hk (thn (ha.run pos pins s σ H _ I h) fun us s1 ⟨vs, H1, I1, r, q⟩ => ⟨I1.kIn, ?_⟩) (star_cons hs.1) (back_any hs.2)
  exact run_fnG F hr hgd hb I1 r q
theorem pe_callG0 (F : FnG X.prog X.w X.K X.mg X.base k f fd ps sp) (hr : Room k X.A) (hgd : X.A.guards = some []) (hg : Gl X x) (hm : X.mg x = some (.ref f)) (hk : PySem.W.keepIn X.K (.ref f) = true) (hb : Binds X.K fd ps [])
    (hdb : (x == ("__debug__" : Str)) = false) : PE X (.Call (.Name x p) [] [] pos) (fun _ H Q => sp [] H Q) := by
  refine ⟨fun pins s σ H Q I h => wpAny_Call_Name_kw (ld_glob I hg hm ?_ hdb)⟩
  exact PySem.W.callWith_K0 I.kIn hk (run_fnG F hr hgd hb I .nil h)
/-- a call by places and names (or with some left out): how the parameters are bound -/
def KB (K : PySem.W.Frag) (fd : FuncData) (ps : List Str) (many : Nat) (ns : List Str) (ix : List Nat) (dv : List V) : Prop :=
  ∀ (s : Shared) (us ws : List Value), K.In s.heap → us.length = many → ws.length = ns.length → ∃ (dw zs : List Value), Vals dv dw ∧ optMap (fun i => (us ++ ws ++ dw)[i]?) ix = some zs ∧ BindsTo s fd ⟨us, ns.zip ws⟩ (ps.zip zs)
theorem pick_vals : ∀ {ix : List Nat} {vs : List V} {us zs : List Value}, Vals vs us → optMap (fun i => us[i]?) ix = some zs → ∃ ys, optMap (fun i => vs[i]?) ix = some ys ∧ Vals ys zs
  | [], _, _, _, _, h => by cases h; exact ⟨[], rfl, .nil⟩
  | i :: r, vs, us, _, hv, h => by
    obtain ⟨y, ys, rfl, h1, h2⟩ := optMap_cons h
    obtain ⟨zs, e, q⟩ := pick_vals hv h2
    have hl := hv.length
    have hi : i < vs.length := by
      rw [hl]
      exact (List.getElem?_eq_some_iff.mp h1).1
    obtain ⟨u, h3, h4⟩ := hv.get (List.getElem?_eq_getElem hi)
    have h1' : us[i]? = some y := h1
    rw [h3] at h1'
    cases h1'
    refine ⟨vs[i] :: zs, ?_, .cons h4 q⟩
    simp only [optMap, e, List.getElem?_eq_getElem hi]
theorem run_fnK {pins : List (Addr × Obj)} {σ : L2.St} {H : Hp} {s : Shared} {Q : VK} {us ws : List Value} {vs zs dv : List V} {many : Nat} {ns : List Str} {ix : List Nat} (F : FnG X.prog X.w X.K X.mg X.base k f fd ps sp) (hr : Room k X.A) (hg : X.A.guards = some [])
    (hb : KB X.K fd ps many ns ix dv) (I : L2.Inv X pins σ H s) (r : Vals vs us) (rz : Vals zs ws) (h1 : vs.length = many) (h2 : zs.length = ns.length) (h : ∀ ys, optMap (fun i => (vs ++ zs ++ dv)[i]?) ix = some ys → sp ys H Q) :
    wpAny (model X.prog X.w) X.A (PySem.call (.ref f) us (ns.zip ws)) (EP X pins σ Q) X.xe s := by
  obtain ⟨dw, xs, hd, hx, b⟩ := hb s us ws I.kIn (by rw [← r.length, h1]) (by rw [← rz.length, h2])
  obtain ⟨ys, e, q⟩ := pick_vals ((r.append rz).append hd) hx
  refine wpAny_call (codeAny_mono (F.run X.A X.stack s H ⟨us, ns.zip ws⟩ xs ys Q hr hg I.env0 b q (h ys e)) fun r s' hq => ?_)
  obtain ⟨u, rfl, q⟩ := back_fn I hq
  exact q
end
end PC
end
section
set_option Elab.async false
set_option linter.all false
set_option maxRecDepth 100000
set_option maxHeartbeats 1000000
/-! PC: enumerate over a tuple. -/
namespace PC
open PySem L2 PySem.Spec PyProof.Rows
open PySem.Sem (wp)
open AutoSeq1 (wpAny_loadPart')
theorem draws_tuple {prog : Program} {w : World} {A : Around} (hh : A.handled = none) (it l : Addr) (hne : l ≠ it) (items : Array Value) :
    Draws prog w A it [it, l] items.size (fun i v => items[i]? = some v) (fun i h => h.IsTupleIter it l i ∧ h.IsTuple l items) where
  live := fun _ _ st => let ⟨o, ho, _⟩ := st.1; ⟨o, ho⟩
  frame := fun _ _ _ st hk => ⟨st.1.at fun o e => hk it (by simp) o e, let ⟨o, ho, r⟩ := st.2; ⟨o, hk l (by simp) o ho, r⟩⟩
  item := fun i s Q E hi st hQ => by
    refine RZ.nextOf_tuple_item st.1 st.2 (x := items[i]) (by simp [hi]) fun h' hit' hs' => ?_
    exact hQ _ h' s.toks (by simp [hi]) ⟨hit', st.2.extBut hs'.extBut hne⟩ hs'
  done := fun s Q E st hE => RZ.nextOf_tuple_end hh st.1 st.2 (by simp) hE
theorem meets_enumerate_newT (l : Addr) (items : Array Value) (n : Nat) (dct : Option Addr) (sl : Array (Option Value)) :
    Meets (Builtin.«enumerate.__new__» ⟨[.type "enumerate", .ref l], []⟩) (fun _ R s => s.heap.get? l = some { cls := .type "tuple", dict := dct, data := .seq items n, slots := sl } ∧
      R (.ok (.ret (.ref (s.heap.push { cls := .type "tuple_iterator", data := .fields #[.ref l, .int 0 0] }).objs.size)))
        { s with heap := (s.heap.push { cls := .type "tuple_iterator", data := .fields #[.ref l, .int 0 0] }).push { cls := .type "enumerate", data := .fields #[.none, .bool false, .ref s.heap.objs.size, rawInt 0, .none, .none] } }) :=
  .of_wp fun prog w A R s h => by
    obtain ⟨hp, g, d, tk, os⟩ := s; obtain ⟨hl, h⟩ := h
    have hsub := sub_enumerate
    have hL : Heap.IsTuple (Shared.heap ⟨hp, g, d, tk, os⟩) l items := ⟨_, hl, rfl, n, rfl⟩
    wp_walk using wpAny_loadPart' hl
    refine wpAny_stack_any fun st => wpAny_pure ?_
    split
    · rename_i c _ _ _ _ _
      cases (c == Value.type "enumerate")
      · wp_walk using wpAny_loadPart' hl, wpAny_pyIter_tuple hL
        exact ⟨_, rfl, h⟩
      · wp_walk using wpAny_loadPart' hl, wpAny_pyIter_tuple hL
        exact ⟨_, rfl, h⟩
    · wp_walk using wpAny_loadPart' hl, wpAny_pyIter_tuple hL
      exact ⟨_, rfl, h⟩
theorem call_enumerate_tuple {prog : Program} {w : World} {A : Around} {E : Value → Shared → Prop} {s : Shared} {l : Addr} {items : Array Value} {Q : Value → Shared → Prop} (hL : s.heap.IsTuple l items)
    (h : ∀ h', IsEnum h' (s.heap.objs.size + 1) s.heap.objs.size 0 .none → h'.IsTupleIter s.heap.objs.size l 0 → h'.objs.size = s.heap.objs.size + 2 →
      (∀ b o, s.heap.get? b = some o → h'.get? b = some o) → Q (.ref (s.heap.objs.size + 1)) { s with heap := h' }) :
    wpAny (model prog w) A (call (.type "enumerate") [.ref l]) Q E s := by
  obtain ⟨⟨c, dct, dt, sl⟩, hl, hc, n, hd⟩ := hL
  replace hc : c = .type "tuple" := hc
  replace hd : dt = .seq items n := hd
  subst hc hd
  refine callType_new F.called_enumerate (by decide) (F.typeCall_enumerate_1 _) (F.newCall_enumerate_1 _) (fun obj => F.args_object_init_2 obj _) F.entry_enumerate_new
    (meets_enumerate_newT l items n dct sl) ⟨hl, ?_⟩
  have hz : (s.heap.push { cls := .type "tuple_iterator", data := .fields #[.ref l, .int 0 0] }).objs.size = s.heap.objs.size + 1 := Heap.size_push ..
  show _ ∧ _
  rw [hz]
  have he : IsEnum ((s.heap.push { cls := .type "tuple_iterator", data := .fields #[.ref l, .int 0 0] }).push
      { cls := .type "enumerate", data := .fields #[.none, .bool false, .ref s.heap.objs.size, rawInt 0, .none, .none] }) (s.heap.objs.size + 1) s.heap.objs.size 0 .none := by
    have := Heap.get?_push_size (s.heap.push { cls := .type "tuple_iterator", data := .fields #[.ref l, .int 0 0] })
      (o := { cls := .type "enumerate", data := .fields #[.none, .bool false, .ref s.heap.objs.size, rawInt 0, .none, .none] }) rfl
    rw [hz] at this; exact this
  refine ⟨⟨_, he, rfl⟩, h _ he ⟨_, Heap.get?_push_of_some _ (Heap.get?_push_size _ rfl), rfl, rfl⟩ (by rw [Heap.size_push, hz]) fun b o x => Heap.get?_push_of_some _ (Heap.get?_push_of_some _ x)⟩
/-- the tuple at a, each item in a new pair -/
def IteT (K : PySem.W.Frag) (a : Addr) : It :=
  ⟨fun i H => ∃ (xs : List V) (x : V), SqT K H a xs ∧ xs[i]? = some x, fun i H v H' => ∃ T x, v = .ref T ∧ H T = none ∧ H' = upd H T (.tup [.int (i : Nat), x]) ∧ ∀ xs, SqT K H a xs → xs[i]? = some x, fun i H => ∃ xs : List V, SqT K H a xs ∧ xs.length ≤ i⟩
theorem turn_enumT {P : Program} {w : World} {K : PySem.W.Frag} {elts : List Expr} {kk : Nat} {tpos : Pos} (a e it : Addr) :
    Turn P w K (.Tuple elts kk tpos) (IteT K a) [e, it] e (fun i h => (∃ old, IsEnum h e it ((i : Nat) : Int) old) ∧ h.IsTupleIter it a i ∧ e ≠ it ∧ a ≠ it ∧ e ≠ a) where
  mem := by simp
  obj := fun i h st b hb => by
    obtain ⟨⟨old, he⟩, ⟨o, ho, hc, hd⟩, _⟩ := st
    have e' : b = e ∨ b = it := by simpa using hb
    rcases e' with z | z
    · rw [z]; exact ⟨_, he, fun v q => nomatch q⟩
    · rw [z]; exact ⟨o, ho, fun v q => by rw [hd] at q; cases q⟩
  keep := fun i h h' st k => let ⟨⟨old, he⟩, hi, hne⟩ := st; ⟨⟨old, k e (by simp) _ he⟩, hi.at fun o q => k it (by simp) o q, hne⟩
  item := by
    intro X hP hw hK hc i pins s σ H E I hf st hg
    subst hP hw hK
    obtain ⟨⟨old, he⟩, hit, hne, hai, hea⟩ := st
    obtain ⟨xs, x, hq, hx⟩ := hg
    obtain ⟨its, rv, p, hz⟩ := I.tuple hq
    obtain ⟨u, hu, ru⟩ := rv.get hx
    have hel : e < s.heap.objs.size := Heap.lt_size he
    have hil : it < s.heap.objs.size := by obtain ⟨_, q, _⟩ := hit; exact Heap.lt_size q
    have hlt : i < its.toArray.size := by
      have := (List.getElem?_eq_some_iff.mp hu).1
      simpa using this
    have D := draws_tuple (prog := X.prog) (w := X.w) (A := X.A.in1) (show X.A.in1.handled = none from I.ok.hd hc) it a hai its.toArray
    refine wpAny_pyNext_enum_itemD D he (show _ ∧ _ from ⟨hit, (show s.heap.IsTuple a its.toArray from p)⟩) hlt hne (by simp [hne, hea]) fun x' h' tk hPx ho hit' hT hsz hk => ?_
    have hxu : x' = u := by
      have h1 : its.toArray[i]? = some x' := hPx
      have h2 : its.toArray[i]? = some u := by simpa using hu
      rw [h1] at h2
      exact Option.some.inj h2
    subst hxu
    refine ⟨_, rfl, wpAny_letOwnedTupleGo_enum (s := { s with heap := h', toks := tk + 1 }) ho fun h'' he' sb => ?_⟩
    have hT2 : h''.get? s.heap.objs.size = some { cls := .type "tuple", data := .seq #[.int i tk, x'] } := (sb.2 _ (Nat.ne_of_gt hel)).trans hT
    have new : ObjOk X.prog X.w (upd H s.heap.objs.size (.tup [.int (i : Nat), x])) h'' s.heap.objs.size (.tup [.int (i : Nat), x]) :=
      ⟨by show 2 ≤ sizeLine; decide, [.int i tk, x'], .cons ⟨_, rfl⟩ (.cons ru .nil), ⟨_, hT2, rfl, _, rfl⟩⟩
    have I1 : Inv X pins σ (upd H s.heap.objs.size (.tup [.int (i : Nat), x])) { s with heap := h'', toks := tk + 1 } :=
      I.turnedNew (ch := [e, it]) (fun b ob hb q => (sb.2 b (fun z => hb (by simp [z]))).trans (hk b ob (fun z => hb (by simp [z])) (fun z => hb (by simp [z])) q)) hf (Nat.le_refl _) new
    refine ⟨.ref s.heap.objs.size, _, I1, rfl, ⟨_, x, rfl, I.hok.fresh (Nat.le_refl _), rfl, fun ys hy => by rw [I.tuple_inj hy hq]; exact hx⟩, ⟨⟨x', ?_⟩, hit'.1.at fun o q => (sb.2 it (Ne.symm hne)).trans q, hne, hai, hea⟩, fun b hb => ?_⟩
    · have e1 : ((i + 1 : Nat) : Int) = (i : Int) + 1 := by omega
      rw [e1]; exact he'
    · have hb' : b < s.heap.objs.size := by
        have e' : b = e ∨ b = it := by simpa using hb
        rcases e' with z | z
        · rw [z]; exact hel
        · rw [z]; exact hil
      rw [upd_ne (Nat.ne_of_lt hb')]
      exact (hf b hb).1
  done := by
    intro X hP hw hK hc i pins s σ H E I hf st hg
    subst hP hw hK
    obtain ⟨⟨old, he⟩, hit, hne, hai, hea⟩ := st
    obtain ⟨xs, hq, hx⟩ := hg
    obtain ⟨its, rv, p, hz⟩ := I.tuple hq
    obtain ⟨f0, f1, f2, f3, f4, f5⟩ := hf it (by simp)
    have hl := rv.length
    have hT : s.TypeIs (.ref e) "enumerate" := ⟨_, he, rfl⟩
    unfold pyNext
    refine wpAny_bind (wpAny_attempt (wpAny_callSpecial?_slot (name := Str.ofString "__next__") hT F.slot_enumerate_next
      (wpAny_call_entry F.slot_enumerate_next hT F.entry_enumerate_next ?_ (F.args_enumerate_next_1 _))))
    show wpAny _ _ (field (.ref e) 2 >>= _) _ _ _
    refine wpAny_bind (wpAny_field he rfl (x := .ref it) rfl ?_)
    refine wpAny_bind (RZ.nextOf_tuple_end (show X.A.in1.in1.handled = none from I.ok.hd hc) hit (show s.heap.IsTuple a its.toArray from p) (by simp; omega) fun h' x he' hx' => ?_)
    obtain ⟨o, ho, hc'⟩ := hx'
    refine wpAny_bind (wpAny_isInstance (T := "StopIteration") (b := true) ⟨o, ho, hc'⟩ isSubtype_stop ?_)
    exact wpAny_pure ⟨rfl, I.turned (t' := s.toks) (fun b o hb q => he' b o hb q) f0 f1 f3 f4 f5⟩
  self := fun A i s Q E st h => let ⟨⟨_, he⟩, _⟩ := st; wpAny_pyIter_enum he h
/-- of a list, of a tuple -/
def iEnumA (K : PySem.W.Frag) (ta : TA) : TI := fun σ H R => ta σ H fun vs H1 => ∃ a xs, vs = [.ref a] ∧ ((SqL K H1 a xs ∧ R (Ite K a) H1) ∨ (SqT K H1 a xs ∧ R (IteT K a) H1))
theorem pi_enumA {X : Cx} {e : Expr} {ta : TA} {p pos tpos : Pos} {elts : List Expr} {kk : Nat} (hg : Gl X "enumerate") (hm : X.mg "enumerate" = none) (ha : PA X [e] ta) (hs : starEach [e] X.env = [(false, eval e X.env)] := by rfl) :
    PI X (.Tuple elts kk tpos) (.Call (.Name "enumerate" p) [e] [] pos) (iEnumA X.K ta) := by
  refine ⟨fun pins s σ H R I h => ?_⟩
  refine Call_ (ld_blt I hg hm boot_enumerate (PyProof.Rows.callWith_type1 (thn (ha.run pos pins s σ H _ I h) fun us s1 ⟨vs, H1, I1, r1, q1⟩ => ?_) hs rfl))
  obtain ⟨a, xs, ex, q1⟩ := q1
  subst ex
  cases r1 with
  | cons r rr =>
    cases rr
    cases r
    have fresh : ∀ b, b ∈ [s1.heap.objs.size + 1, s1.heap.objs.size] → FpOk X pins H1 b := fun b hb => by
      have e' : b = s1.heap.objs.size + 1 ∨ b = s1.heap.objs.size := by simpa using hb
      have hle : s1.heap.objs.size ≤ b := by
        rcases e' with z | z
        · rw [z]; exact Nat.le_add_right _ _
        · rw [z]; exact Nat.le_refl _
      exact I1.fpOk hle (I1.hok.fresh hle)
    rcases q1 with ⟨hq, q⟩ | ⟨hq, q⟩
    · obtain ⟨its, rv, p', hz⟩ := I1.list hq
      refine call_enumerate_list p'.isList fun h' he hit hsz hk => wpAny_pyIter_enum he ?_
      have I2 : Inv X pins σ H1 { s1 with heap := h' } := I1.kept (t' := s1.toks) hk
      exact ⟨s1.heap.objs.size + 1, [s1.heap.objs.size + 1, s1.heap.objs.size], _, _, H1, rfl, I2, turn_enum a (s1.heap.objs.size + 1) s1.heap.objs.size, ⟨⟨.none, he⟩, hit, Nat.succ_ne_self _⟩, fresh, q⟩
    · obtain ⟨its, rv, p', hz⟩ := I1.tuple hq
      have la : a < s1.heap.objs.size := by obtain ⟨o1, ho1, _⟩ := id p'; exact Heap.lt_size ho1
      refine call_enumerate_tuple (show s1.heap.IsTuple a its.toArray from p') fun h' he hit hsz hk => wpAny_pyIter_enum he ?_
      have I2 : Inv X pins σ H1 { s1 with heap := h' } := I1.kept (t' := s1.toks) hk
      exact ⟨s1.heap.objs.size + 1, [s1.heap.objs.size + 1, s1.heap.objs.size], _, _, H1, rfl, I2, turn_enumT a (s1.heap.objs.size + 1) s1.heap.objs.size, ⟨⟨.none, he⟩, hit, Nat.succ_ne_self _, Nat.ne_of_lt la, Ne.symm (Nat.ne_of_lt (Nat.lt_succ_of_lt la))⟩, fresh, q⟩
theorem walk_enumT {K : PySem.W.Frag} {a : Addr} {xs : List V} : Walk (IteT K a) xs.length (fun H => SqT K H a xs) (YPair (fun i => some (.int (i : Nat))) (fun i => xs[i]?)) := by
  refine ⟨fun i _ hi q => ⟨xs, xs[i], q, by simp [hi]⟩, fun _ q => ⟨xs, q, Nat.le_refl _⟩, fun i H v H' _ q y => ?_⟩
  obtain ⟨T, x, h1, h2, h3, h4⟩ := y
  exact ⟨T, .int (i : Nat), x, h1, h2, h3, rfl, h4 xs q⟩
end PC
end
section
set_option Elab.async false
set_option linter.all false
set_option maxRecDepth 100000
set_option maxHeartbeats 1000000
/-! PC: what loops walk over. -/
namespace PC
open PySem L2
section
variable {W : Wd} {ι ι' ι1 ι2 : List Addr} {S S' S0 S1 S2 : Sto} {H H' H1 H2 : Hp}
theorem froz_len (S : Sto) (n : Nat) : (froz S n).length = S.length := by
  unfold froz
  split
  · rw [List.length_set]
  · rfl
theorem frozL_len : ∀ (st : List Nat) (S : Sto), (st.foldl froz S).length = S.length
  | [], _ => rfl
  | n :: st, S => by rw [List.foldl_cons, frozL_len st, froz_len]
theorem froz_at (S : Sto) (n m : Nat) : (froz S n)[m]? = S[m]? ∨ ∃ xs, m = n ∧ S[m]? = some (.lst xs) ∧ (froz S n)[m]? = some (.fro xs) := by
  unfold froz
  split
  · rename_i xs h
    by_cases e : m = n
    · subst e
      refine .inr ⟨xs, rfl, h, ?_⟩
      rw [List.getElem?_set_self (List.getElem?_eq_some_iff.mp h).1]
    · exact .inl (List.getElem?_set_ne (Ne.symm e))
  · exact .inl rfl
theorem frozL_at : ∀ (st : List Nat) (S : Sto) (m : Nat), (st.foldl froz S)[m]? = S[m]? ∨ ∃ xs, m ∈ st ∧ S[m]? = some (.lst xs) ∧ (st.foldl froz S)[m]? = some (.fro xs)
  | [], _, _ => .inl rfl
  | n :: st, S, m => by
    rw [List.foldl_cons]
    rcases frozL_at st (froz S n) m with e | ⟨xs, h1, h2, h3⟩
    · rcases froz_at S n m with e' | ⟨xs, rfl, e1, e2⟩
      · exact .inl (e.trans e')
      · exact .inr ⟨xs, List.mem_cons_self, e1, e.trans e2⟩
    · rcases froz_at S n m with e' | ⟨ys, rfl, e1, e2⟩
      · exact .inr ⟨xs, List.mem_cons_of_mem _ h1, e' ▸ h2, h3⟩
      · rw [e2] at h2
        cases h2
theorem frozL_fz {st : List Nat} {m : Nat} (h : Fz S[m]?) : (st.foldl froz S)[m]? = S[m]? := by
  rcases frozL_at st S m with e | ⟨xs, _, e, _⟩
  · exact e
  · rw [e] at h
    exact h.elim
theorem froz_lst {n : Nat} {xs : List D} (h : S[n]? = some (.lst xs) ∨ S[n]? = some (.fro xs)) : (froz S n)[n]? = some (.fro xs) := by
  unfold froz
  rcases h with h | h
  · rw [h]
    simp only
    rw [List.getElem?_set_self (List.getElem?_eq_some_iff.mp h).1]
  · rw [h]
    exact h
theorem frozL_fro : ∀ {st : List Nat} {S : Sto} {n : Nat} {xs : List D}, n ∈ st → (S[n]? = some (.lst xs) ∨ S[n]? = some (.fro xs)) → (st.foldl froz S)[n]? = some (.fro xs)
  | m :: st, S, n, xs, hm, h => by
    rw [List.foldl_cons]
    by_cases e : n = m
    · subst e
      have h1 := froz_lst h
      rw [frozL_fz (by rw [h1]; trivial), h1]
    · refine frozL_fro (by
        rcases List.mem_cons.mp hm with z | z
        · exact absurd z e
        · exact z) ?_
      rcases froz_at S m n with e' | ⟨_, z, _⟩
      · rw [e']
        exact h
      · exact absurd z e
theorem Rep.froz1 (R : Rep W ι S H) (n : Nat) : Rep W ι (froz S n) H := by
  refine ⟨by rw [froz_len]; exact R.len, R.nd, fun m a o h1 h2 => ?_, R.tab⟩
  rcases froz_at S n m with e | ⟨xs, rfl, e1, e2⟩
  · exact R.ob m a o h1 (e ▸ h2)
  · rw [e2] at h2
    cases h2
    have q : OV W ι H a (.lst xs) := R.ob m a _ h1 e1
    exact q
theorem Rep.froz : ∀ {st : List Nat} {S : Sto}, Rep W ι S H → Rep W ι (st.foldl froz S) H
  | [], _, R => R
  | n :: st, S, R => by
    rw [List.foldl_cons]
    exact Rep.froz (R.froz1 n)
theorem thaw_len (S0 S : Sto) (n : Nat) : (thaw S0 S n).length = S.length := by
  unfold thaw
  split
  · rw [List.length_set]
  · rfl
theorem thaw_at (S0 S : Sto) (n m : Nat) : (thaw S0 S n)[m]? = S[m]? ∨ ∃ xs, m = n ∧ S0[m]? = some (.lst xs) ∧ (thaw S0 S n)[m]? = some (.lst xs) ∧ m < S.length := by
  unfold thaw
  split
  · rename_i xs h
    by_cases e : m = n
    · subst e
      by_cases hl : m < S.length
      · exact .inr ⟨xs, rfl, h, List.getElem?_set_self hl, hl⟩
      · refine .inl ?_
        rw [List.set_eq_of_length_le (by omega)]
    · exact .inl (List.getElem?_set_ne (Ne.symm e))
  · exact .inl rfl
theorem Rep.thaw1 {n : Nat} (R : Rep W ι S H) (h : ∀ xs, S0[n]? = some (.lst xs) → S[n]? = some (.fro xs) ∨ S[n]? = some (.lst xs)) : Rep W ι (thaw S0 S n) H := by
  refine ⟨by rw [thaw_len]; exact R.len, R.nd, fun m a o h1 h2 => ?_, R.tab⟩
  rcases thaw_at S0 S n m with e | ⟨xs, rfl, e1, e2, _⟩
  · exact R.ob m a o h1 (e ▸ h2)
  · rw [e2] at h2
    cases h2
    rcases h xs e1 with q | q
    · have z : OV W ι H a (.fro xs) := R.ob m a _ h1 q
      exact z
    · exact R.ob m a _ h1 q
theorem Rep.thaw : ∀ {st : List Nat} {S : Sto}, Rep W ι S H → (∀ m xs, m ∈ st → S0[m]? = some (.lst xs) → S[m]? = some (.fro xs) ∨ S[m]? = some (.lst xs)) → Rep W ι (st.foldl (thaw S0) S) H
  | [], _, R, _ => R
  | n :: st, S, R, h => by
    rw [List.foldl_cons]
    refine Rep.thaw (R.thaw1 fun xs => h n xs List.mem_cons_self) fun m xs hm e => ?_
    rcases thaw_at S0 S n m with e' | ⟨ys, rfl, e1, e2, _⟩
    · rw [e']
      exact h m xs (List.mem_cons_of_mem _ hm) e
    · rw [e] at e1
      cases e1
      exact .inr e2
theorem thawL_fz : ∀ {st : List Nat} {S : Sto} {m : Nat}, Fz S0[m]? → (st.foldl (thaw S0) S)[m]? = S[m]?
  | [], _, _, _ => rfl
  | n :: st, S, m, h => by
    rw [List.foldl_cons, thawL_fz h]
    rcases thaw_at S0 S n m with e' | ⟨ys, rfl, e1, e2, _⟩
    · exact e'
    · rw [e1] at h
      exact h.elim
/-- a loop's end: the lists that stood still may change again -/
theorem loop_end {st : List Nat} (E : Ext ι1 (st.foldl froz S1) H1 ι2 S2 H2) (R : Rep W ι2 S2 H2) : Rep W ι2 (st.foldl (thaw S1) S2) H2 ∧ Ext ι1 S1 H1 ι2 (st.foldl (thaw S1) S2) H2 := by
  refine ⟨R.thaw fun m xs hm e => ?_, ⟨E.pre, fun a o h nt k => E.keep a o h nt fun hm => ?_, fun n h => ?_⟩⟩
  · have q := frozL_fro hm (.inl e)
    exact .inl ((E.fr m (by rw [q]; trivial)).trans q)
  · obtain ⟨n, hn, hf⟩ := k hm
    exact ⟨n, hn, by rw [frozL_fz hf]; exact hf⟩
  · rw [thawL_fz h]
    have q : Fz (st.foldl froz S1)[n]? := by rw [frozL_fz h]; exact h
    exact (E.fr n q).trans (frozL_fz h)
theorem fr_refl {st : List Nat} : Ext ι S H ι (st.foldl froz S) H := by
  refine ⟨⟨[], by simp, by simp⟩, fun a o h _ _ => h, fun n h => frozL_fz h⟩

/-! ### the walks -/
/-- J gives the items xs, whatever goes on that leaves the frozen lists -/
def WkD (W : Wd) (J : It) (xs : List D) (ι1 : List Addr) (S1 : Sto) (H1 : Hp) : Prop :=
  ∃ (G : Hp → Prop) (Y : Nat → Hp → V → Hp → Prop), L2.Walk J xs.length G Y ∧ ∀ ι S H, Ext ι1 S1 H1 ι S H → Rep W ι S H → G H ∧ ∀ i x H', i < xs.length → Y i H x H' →
    Rep W ι S H' ∧ Ext ι S H ι S H' ∧ ∃ d, xs[i]? = some d ∧ DV W ι H' d x
theorem wk_list {a : Addr} {n : Nat} {xs : List D} {vs : List V} (R1 : Rep W ι1 S1 H1) (ha : ι1[n]? = some a) (hs : S1[n]? = some (.fro xs)) (hv : H1 a = some (.lst vs)) (hd : DVs W ι1 H1 xs vs) : WkD W (Itl W.K a) xs ι1 S1 H1 := by
  refine ⟨_, _, (DVs.length hd) ▸ walk_list (K := W.K) (a := a) (xs := vs), fun ι S H E R => ⟨?_, fun i x H' hi hy => ?_⟩⟩
  · exact .of (E.keep a _ hv (fun ps z => nomatch z) fun _ => ⟨n, ha, by rw [hs]; trivial⟩)
  · obtain ⟨rfl, e⟩ := hy
    refine ⟨R, .refl, ?_⟩
    obtain ⟨v, h1, h2⟩ := DVs.get (DVs.mono E R1 _ _ hd) (List.getElem?_eq_getElem hi)
    rw [h1] at e
    cases e
    exact ⟨_, List.getElem?_eq_getElem hi, h2⟩
theorem wk_const {a : Addr} {xs : List D} {vs : List V} (R1 : Rep W ι1 S1 H1) (hv : ∀ ι S H, Ext ι1 S1 H1 ι S H → SqL W.K H a vs) (hd : DVs W ι1 H1 xs vs) : WkD W (Itl W.K a) xs ι1 S1 H1 := by
  refine ⟨_, _, (DVs.length hd) ▸ walk_list (K := W.K) (a := a) (xs := vs), fun ι S H E R => ⟨hv _ _ _ E, fun i x H' hi hy => ?_⟩⟩
  obtain ⟨rfl, e⟩ := hy
  refine ⟨R, .refl, ?_⟩
  obtain ⟨v, h1, h2⟩ := DVs.get (DVs.mono E R1 _ _ hd) (List.getElem?_eq_getElem hi)
  rw [h1] at e
  cases e
  exact ⟨_, List.getElem?_eq_getElem hi, h2⟩
theorem wk_tup {a : Addr} {xs : List D} {vs : List V} (R1 : Rep W ι1 S1 H1) (hv : SqT W.K H1 a vs) (hd : DVs W ι1 H1 xs vs) : WkD W (Itt W.K a) xs ι1 S1 H1 := by
  refine ⟨_, _, (DVs.length hd) ▸ walk_tup (K := W.K) (a := a) (xs := vs), fun ι S H E R => ⟨E.tup R1 hv, fun i x H' hi hy => ?_⟩⟩
  obtain ⟨rfl, e⟩ := hy
  refine ⟨R, .refl, ?_⟩
  obtain ⟨v, h1, h2⟩ := DVs.get (DVs.mono E R1 _ _ hd) (List.getElem?_eq_getElem hi)
  rw [h1] at e
  cases e
  exact ⟨_, List.getElem?_eq_getElem hi, h2⟩
theorem wk_str {z : Str} : WkD W (Its z) (z.cps.toList.map fun c => .str ⟨#[c]⟩) ι1 S1 H1 := by
  have hl : (z.cps.toList.map fun c => (D.str ⟨#[c]⟩)).length = z.cps.size := by simp
  refine ⟨_, _, hl ▸ walk_str (z := z), fun ι S H E R => ⟨trivial, fun i x H' hi hy => ?_⟩⟩
  obtain ⟨rfl, c, e, rfl⟩ := hy
  refine ⟨R, .refl, .str ⟨#[c]⟩, ?_, rfl⟩
  rw [List.getElem?_map]
  simp [e]
theorem wk_range {lo : Int} {n : Nat} : WkD W (Itr lo n) ((List.range n).map fun (k : Nat) => .int (lo + k)) ι1 S1 H1 := by
  have hl : ((List.range n).map fun (k : Nat) => D.int (lo + k)).length = n := by simp
  refine ⟨fun _ => True, YFn fun i => .int (lo + i), by rw [hl]; exact walk_range, fun ι S H E R => ⟨trivial, fun i x H' hi hy => ?_⟩⟩
  obtain ⟨rfl, e⟩ := hy
  refine ⟨R, .refl, .int (lo + i), ?_, e⟩
  rw [List.getElem?_map, List.getElem?_range (by rw [hl] at hi; exact hi)]
  rfl
theorem pair_ok (R : Rep W ι S H) {T : Addr} (hT : H T = none) {d1 d2 : D} {x y : V} (h1 : DV W ι H d1 x) (h2 : DV W ι H d2 y) :
    Rep W ι S (upd H T (.tup [x, y])) ∧ Ext ι S H ι S (upd H T (.tup [x, y])) ∧ DV W ι (upd H T (.tup [x, y])) (.tup [d1, d2]) (.ref T) := by
  obtain ⟨R', E⟩ := R.put hT (.tup [x, y])
  exact ⟨R', E, T, [x, y], rfl, .of upd_same, x, [y], rfl, DV.mono E R _ _ h1, y, [], rfl, DV.mono E R _ _ h2, rfl⟩
theorem wk_enum {a : Addr} {n : Nat} {xs : List D} {vs : List V} (R1 : Rep W ι1 S1 H1) (ha : ι1[n]? = some a) (hs : S1[n]? = some (.fro xs)) (hv : H1 a = some (.lst vs)) (hd : DVs W ι1 H1 xs vs) :
    WkD W (Ite W.K a) (xs.zipIdx.map fun (x, k) => .tup [.int k, x]) ι1 S1 H1 := by
  have hl : (xs.zipIdx.map fun ((x, k) : D × Nat) => D.tup [.int k, x]).length = vs.length := by simp [DVs.length hd]
  refine ⟨_, _, hl.symm ▸ walk_enum (K := W.K) (a := a) (xs := vs), fun ι S H E R => ⟨?_, fun i x H' hi hy => ?_⟩⟩
  · exact .of (E.keep a _ hv (fun ps z => nomatch z) fun _ => ⟨n, ha, by rw [hs]; trivial⟩)
  · obtain ⟨T, x1, y1, rfl, hT, rfl, e1, e2⟩ := hy
    have hi' : i < xs.length := by simpa using hi
    obtain ⟨v, h1, h2⟩ := DVs.get (DVs.mono E R1 _ _ hd) (List.getElem?_eq_getElem hi')
    rw [show vs[i]? = some y1 from e2] at h1
    cases h1
    cases (show some (V.int (i : Nat)) = some x1 from e1)
    obtain ⟨q1, q2, q3⟩ := pair_ok R hT (d1 := .int i) (x := .int i) rfl h2
    refine ⟨q1, q2, _, ?_, q3⟩
    rw [List.getElem?_map, List.getElem?_zipIdx, List.getElem?_eq_getElem hi']
    simp
theorem wk_enumT {a : Addr} {xs : List D} {vs : List V} (R1 : Rep W ι1 S1 H1) (hv : SqT W.K H1 a vs) (hd : DVs W ι1 H1 xs vs) :
    WkD W (IteT W.K a) (xs.zipIdx.map fun (x, k) => .tup [.int k, x]) ι1 S1 H1 := by
  have hl : (xs.zipIdx.map fun ((x, k) : D × Nat) => D.tup [.int k, x]).length = vs.length := by simp [DVs.length hd]
  refine ⟨_, _, hl.symm ▸ walk_enumT (K := W.K) (a := a) (xs := vs), fun ι S H E R => ⟨E.tup R1 hv, fun i x H' hi hy => ?_⟩⟩
  obtain ⟨T, x1, y1, rfl, hT, rfl, e1, e2⟩ := hy
  have hi' : i < xs.length := by simpa using hi
  obtain ⟨v, h1, h2⟩ := DVs.get (DVs.mono E R1 _ _ hd) (List.getElem?_eq_getElem hi')
  rw [show vs[i]? = some y1 from e2] at h1
  cases h1
  cases (show some (V.int (i : Nat)) = some x1 from e1)
  obtain ⟨q1, q2, q3⟩ := pair_ok R hT (d1 := .int i) (x := .int i) rfl h2
  refine ⟨q1, q2, _, ?_, q3⟩
  rw [List.getElem?_map, List.getElem?_zipIdx, List.getElem?_eq_getElem hi']
  simp
theorem wk_zip {a b : Addr} {n m : Nat} {xs ys : List D} {vs ws : List V} (R1 : Rep W ι1 S1 H1) (ha : ι1[n]? = some a) (hs : S1[n]? = some (.fro xs)) (hv : H1 a = some (.lst vs)) (hd : DVs W ι1 H1 xs vs)
    (hb : ι1[m]? = some b) (hs' : S1[m]? = some (.fro ys)) (hv' : H1 b = some (.lst ws)) (hd' : DVs W ι1 H1 ys ws) :
    WkD W (Itz W.K a b) (List.zipWith (fun x y => .tup [x, y]) xs ys) ι1 S1 H1 := by
  have hl : (List.zipWith (fun x y => D.tup [x, y]) xs ys).length = min vs.length ws.length := by simp [DVs.length hd, DVs.length hd']
  refine ⟨_, _, hl.symm ▸ walk_zip (K := W.K) (a := a) (b := b) (xs := vs) (ys := ws) rfl, fun ι S H E R => ⟨⟨SqL.of (E.keep a _ hv (fun ps z => nomatch z) fun _ => ⟨n, ha, by rw [hs]; trivial⟩), SqL.of (E.keep b _ hv' (fun ps z => nomatch z) fun _ => ⟨m, hb, by rw [hs']; trivial⟩)⟩, fun i x H' hi hy => ?_⟩⟩
  · obtain ⟨T, x1, y1, rfl, hT, rfl, e1, e2⟩ := hy
    have hi1 : i < xs.length := by
      have : i < min xs.length ys.length := by simpa using hi
      omega
    have hi2 : i < ys.length := by
      have : i < min xs.length ys.length := by simpa using hi
      omega
    obtain ⟨v, h1, h2⟩ := DVs.get (DVs.mono E R1 _ _ hd) (List.getElem?_eq_getElem hi1)
    obtain ⟨w, h3, h4⟩ := DVs.get (DVs.mono E R1 _ _ hd') (List.getElem?_eq_getElem hi2)
    rw [show vs[i]? = some x1 from e1] at h1
    rw [show ws[i]? = some y1 from e2] at h3
    cases h1
    cases h3
    obtain ⟨q1, q2, q3⟩ := pair_ok R hT h2 h4
    refine ⟨q1, q2, _, ?_, q3⟩
    rw [List.getElem?_zipWith, List.getElem?_eq_getElem hi1, List.getElem?_eq_getElem hi2]
end
end PC
end
section
set_option Elab.async false
set_option linter.all false
set_option maxRecDepth 100000
set_option maxHeartbeats 1000000
/-! PC: what expressions are shown to do. -/
namespace PC
open PySem L2

/-! ### lambdas: lent to a call -/
/-- the object at a is o -/
def ObO (a : Addr) (o : Obj) : HO := .ext fun h => h.get? a = some o
abbrev lamObj (I : LmI) (cl : List (Str × Addr)) (pm : Value) (c : Addr) (ct : Value) : Obj := PySem.W.kla_obj "<lambda>" I.qual I.params I.body I.scope cl pm c ct
structure CellsV (H : Hp) (cl : List (Str × Addr)) (fr : List Str) (vs : List V) : Prop where
  len : vs.length = fr.length
  inj : ∀ x y c, cl.lookup x = some c → cl.lookup y = some c → x = y
  all : ∀ y c, cl.lookup y = some c → ∃ o v, H c = some (ObO c o) ∧ o.data = .cell v
  at_ : ∀ (i : Nat) y x, fr[i]? = some y → vs[i]? = some x → ∃ c o u, cl.lookup y = some c ∧ H c = some (ObO c o) ∧ o.data = .cell (some u) ∧ RelV x u
def LamV (W : Wd) (ι : List Addr) (H : Hp) (l : Nat) (cs : List D) (f : Addr) : Prop :=
  ∃ (I : LmI) (c : Addr) (cl : List (Str × Addr)) (pm ct : Value) (vs : List V), W.lm l = some I ∧ H f = some (ObO f (lamObj I cl pm c ct)) ∧ H c = some (LamX.CodeO c I.qual) ∧ (∀ y x, cl.lookup y = some x → x ≠ f ∧ x ≠ c) ∧ DVs W ι H cs vs ∧ CellsV H cl I.fr vs
/-- a value that a slot may hold: or a lambda -/
def DX (W : Wd) (ι : List Addr) (H : Hp) (d : D) (v : V) : Prop := DV W ι H d v ∨ ∃ l cs f, d = .lam l cs ∧ v = .ref f ∧ LamV W ι H l cs f
def DXs (W : Wd) (ι : List Addr) (H : Hp) : List D → List V → Prop
  | [], vs => vs = []
  | d :: ds, vs => ∃ v r, vs = v :: r ∧ DX W ι H d v ∧ DXs W ι H ds r
section
variable {W : Wd} {ι ι' : List Addr} {S S' : Sto} {H H' : Hp}
theorem Ext.ext (E : Ext ι S H ι' S' H') (R : Rep W ι S H) {a : Addr} {φ : Heap → Prop} (h : H a = some (.ext φ)) (no : ¬ Own (.ext φ)) : H' a = some (.ext φ) := E.keep a _ h (fun ps z => nomatch z) fun z => by
  obtain ⟨u, e, q⟩ := R.mem z
  rw [h] at e
  cases e
  exact absurd q no
theorem obo_no {c : Addr} {o : Obj} (hn : ∀ es ep, o.data ≠ .dict es ep) : ¬ Own (ObO c o) := fun ⟨_, _, _, _, _, z, q⟩ => dtF_obo hn z q
theorem cell_no {c : Addr} {o : Obj} {v : Option Value} (e : o.data = .cell v) : ¬ Own (ObO c o) := obo_no fun _ _ z => by rw [e] at z; cases z
theorem code_no {c : Addr} {q : Str} : ¬ Own (LamX.CodeO c q) := fun ⟨P, w, a, xs, _, z, _⟩ => dtF_code P w a c q xs z.symm
theorem lam_no {f : Addr} {I : LmI} {cl : List (Str × Addr)} {pm : Value} {c : Addr} {ct : Value} : ¬ Own (ObO f (lamObj I cl pm c ct)) := obo_no fun _ _ z => by
  simp [lamObj, PySem.W.kla_obj] at z
theorem CellsV.mono (E : Ext ι S H ι' S' H') (R : Rep W ι S H) {cl : List (Str × Addr)} {fr : List Str} {vs : List V} (h : CellsV H cl fr vs) : CellsV H' cl fr vs :=
  ⟨h.len, h.inj, fun y c q => by
    obtain ⟨o, v, h1, h2⟩ := h.all y c q
    exact ⟨o, v, E.ext R h1 (cell_no h2), h2⟩, fun i y x q1 q2 => by
    obtain ⟨c, o, u, h1, h2, h3, h4⟩ := h.at_ i y x q1 q2
    exact ⟨c, o, u, h1, E.ext R h2 (cell_no h3), h3, h4⟩⟩
theorem LamV.mono (E : Ext ι S H ι' S' H') (R : Rep W ι S H) {l : Nat} {cs : List D} {f : Addr} (h : LamV W ι H l cs f) : LamV W ι' H' l cs f := by
  obtain ⟨I, c, cl, pm, ct, vs, h1, h2, h3, h4, h5, h6⟩ := h
  exact ⟨I, c, cl, pm, ct, vs, h1, E.ext R h2 lam_no, E.ext R h3 code_no, h4, DVs.mono E R _ _ h5, h6.mono E R⟩
theorem DX.mono (E : Ext ι S H ι' S' H') (R : Rep W ι S H) {d : D} {v : V} (h : DX W ι H d v) : DX W ι' H' d v := by
  rcases h with h | ⟨l, cs, f, h1, h2, h3⟩
  · exact .inl (DV.mono E R _ _ h)
  · exact .inr ⟨l, cs, f, h1, h2, h3.mono E R⟩
theorem DX.dv {d : D} {v : V} (h : DX W ι H d v) (hd : isLam d = false) : DV W ι H d v := by
  rcases h with h | ⟨l, cs, f, rfl, _⟩
  · exact h
  · cases hd
theorem DXs.of : ∀ {ds : List D} {vs : List V}, DVs W ι H ds vs → DXs W ι H ds vs
  | [], _, h => h
  | d :: ds, _, ⟨v, r, e, h, q⟩ => ⟨v, r, e, .inl h, DXs.of q⟩
theorem DXs.snoc {d : D} {v : V} (hd : DX W ι H d v) : ∀ {ds : List D} {vs : List V}, DVs W ι H ds vs → DXs W ι H (ds ++ [d]) (vs ++ [v])
  | [], _, h => by
    rw [show _ = [] from h]
    exact ⟨v, [], rfl, hd, rfl⟩
  | d' :: ds, _, ⟨v', r, e, h, q⟩ => by
    subst e
    exact ⟨v', r ++ [v], rfl, .inl h, DXs.snoc hd q⟩
theorem DXs.length : ∀ {ds : List D} {vs : List V}, DXs W ι H ds vs → ds.length = vs.length
  | [], _, h => by rw [show _ = [] from h]; rfl
  | d :: ds, _, ⟨v, r, e, _, q⟩ => by rw [e, List.length_cons, List.length_cons, DXs.length q]
theorem DXs.get : ∀ {ds : List D} {vs : List V} {i : Nat} {d : D}, DXs W ι H ds vs → ds[i]? = some d → ∃ v, vs[i]? = some v ∧ DX W ι H d v
  | [], _, _, _, _, h => by simp at h
  | d :: ds, _, 0, x, ⟨v, r, e, h, q⟩, hx => by
    subst e
    simp at hx
    subst hx
    exact ⟨v, rfl, h⟩
  | d :: ds, _, i + 1, x, ⟨v, r, e, h, q⟩, hx => by
    subst e
    obtain ⟨y, h1, h2⟩ := DXs.get q (show ds[i]? = some x by simpa using hx)
    exact ⟨y, by simpa using h1, h2⟩
end
/-! ### slots -/
def EnV (W : Wd) (ι : List Addr) (H : Hp) (e : En) (σ : L2.St) : Prop := e.length = σ.length ∧ ∀ (i : Nat) d, e[i]? = some (some d) → ∃ v, σ[i]? = some (some v) ∧ DX W ι H d v
section
variable {W : Wd} {ι ι' ι1 ι2 : List Addr} {S S' S0 S1 S2 : Sto} {H H' H1 H2 : Hp} {e e' : En} {σ σ' : L2.St}
theorem EnV.mono (E : Ext ι S H ι' S' H') (R : Rep W ι S H) (h : EnV W ι H e σ) : EnV W ι' H' e σ := ⟨h.1, fun i d q => by
  obtain ⟨v, h1, h2⟩ := h.2 i d q
  exact ⟨v, h1, h2.mono E R⟩⟩
theorem EnV.set {i : Nat} {d : D} {v : V} (h : EnV W ι H e σ) (hd : DV W ι H d v) : EnV W ι H (e.set i (some d)) (σ.set i (some v)) := by
  refine ⟨by rw [List.length_set, List.length_set]; exact h.1, fun j x q => ?_⟩
  by_cases hj : i = j
  · subst hj
    by_cases hl : i < e.length
    · rw [List.getElem?_set_self hl] at q
      cases q
      exact ⟨v, List.getElem?_set_self (by rw [← h.1]; exact hl), .inl hd⟩
    · rw [List.getElem?_eq_none (by rw [List.length_set]; omega)] at q
      cases q
  · rw [List.getElem?_set_ne hj] at q
    rw [List.getElem?_set_ne hj]
    exact h.2 j x q
theorem EnV.del {i : Nat} (h : EnV W ι H e σ) : EnV W ι H (e.set i none) (σ.set i none) := by
  refine ⟨by rw [List.length_set, List.length_set]; exact h.1, fun j x q => ?_⟩
  by_cases hj : i = j
  · subst hj
    by_cases hl : i < e.length
    · rw [List.getElem?_set_self hl] at q
      cases q
    · rw [List.getElem?_eq_none (by rw [List.length_set]; omega)] at q
      cases q
  · rw [List.getElem?_set_ne hj] at q
    rw [List.getElem?_set_ne hj]
    exact h.2 j x q
theorem EnV.wipe (h : EnV W ι H e σ) : ∀ own : List Nat, EnV W ι H (PC.wipe e own) (L2.wipe σ own)
  | [] => h
  | v :: vs => EnV.del (EnV.wipe h vs)
end

/-! ### readings -/
def GdA (W : Wd) (ι : List Addr) (S : Sto) (H : Hp) (S' : Sto) (ds : List D) (Q : List V → Hp → Prop) : Prop := ∀ ι' H' vs, Ext ι S H ι' S' H' → Rep W ι' S' H' → DVs W ι' H' ds vs → Q vs H'
def GdX (W : Wd) (ι : List Addr) (S : Sto) (H : Hp) (S' : Sto) (Q : Hp → Prop) : Prop := ∀ ι' H', Ext ι S H ι' S' H' → Rep W ι' S' H' → Q H'
section
variable (W : Wd) (C : Cal)
def rdE (c : CE) : TE := fun σ H Q => ∃ ι S e d S', Rep W ι S H ∧ EnV W ι H e σ ∧ evE C c e S = some (d, S') ∧ Gd W ι S H S' d Q
def rdT (c : CE) : TT := fun σ H Q => ∃ ι S e b S', Rep W ι S H ∧ EnV W ι H e σ ∧ tstE C c e S = some (b, S') ∧ GdX W ι S H S' (Q b)
def rdA (cs : CEs) : TA := fun σ H Q => ∃ ι S e ds S', Rep W ι S H ∧ EnV W ι H e σ ∧ evEs C cs e S = some (ds, S') ∧ GdA W ι S H S' ds Q
def rdO (c : CO) : TO := fun σ H Q => ∃ ι S e o S', Rep W ι S H ∧ EnV W ι H e σ ∧ evO C c e S = some (o, S') ∧ GdX W ι S H S' (Q o)
def rdTs (cs : CEs) : TT := fun σ H Q => ∃ ι S e b S', Rep W ι S H ∧ EnV W ι H e σ ∧ tstEs C cs e S = some (b, S') ∧ GdX W ι S H S' (Q b)
/-- a def by its number -/
def spF (f : Nat) : List V → Hp → VK → Prop := fun vs H Q => ∃ ι S ds d S', Rep W ι S H ∧ DXs W ι H ds vs ∧ C.fn f ds S = some (d, S') ∧ Gd W ι S H S' d Q
end
theorem bnd_some {α β : Type} {m : Re α} {k : α → Sto → Re β} {r : β × Sto} (h : bnd m k = some r) : ∃ a S, m = some (a, S) ∧ k a S = some r := by
  unfold bnd at h
  split at h
  · exact ⟨_, _, rfl, h⟩
  · cases h
section
variable {W : Wd} {C : Cal} {ι ι' ι1 ι2 : List Addr} {S S' S0 S1 S2 : Sto} {H H' H1 H2 : Hp} {e e' : En} {σ σ' : L2.St} {X : Cx}
theorem Gd.thru {d : D} {Q : VK} (g : Gd W ι S H S2 d Q) (E : Ext ι S H ι1 S1 H1) (R : Rep W ι1 S1 H1) : Gd W ι1 S1 H1 S2 d Q := fun ι' H' v E' R' hv => g ι' H' v (E.trans R E') R' hv
theorem GdA.thru {d : List D} {Q : List V → Hp → Prop} (g : GdA W ι S H S2 d Q) (E : Ext ι S H ι1 S1 H1) (R : Rep W ι1 S1 H1) : GdA W ι1 S1 H1 S2 d Q := fun ι' H' v E' R' hv => g ι' H' v (E.trans R E') R' hv
theorem GdX.thru {Q : Hp → Prop} (g : GdX W ι S H S2 Q) (E : Ext ι S H ι1 S1 H1) (R : Rep W ι1 S1 H1) : GdX W ι1 S1 H1 S2 Q := fun ι' H' E' R' => g ι' H' (E.trans R E') R'
theorem GdX.here {Q : Hp → Prop} (g : GdX W ι S H S Q) (R : Rep W ι S H) : Q H := g ι H .refl R
theorem _root_.L2.PE.w {ex : Expr} {t t' : TE} (h : PE X ex t) (k : ∀ σ H Q, t' σ H Q → t σ H Q) : PE X ex t' := ⟨fun pins s σ H Q I q => h.run pins s σ H Q I (k σ H Q q)⟩
theorem _root_.L2.PT.w {ex : Expr} {t t' : TT} (h : PT X ex t) (k : ∀ σ H Q, t' σ H Q → t σ H Q) : PT X ex t' := ⟨fun pins s σ H Q I q => h.run pins s σ H Q I (k σ H Q q)⟩
theorem _root_.L2.PW.w {ex : Expr} {t t' : TT} (h : PW X ex t) (k : ∀ σ H Q, t' σ H Q → t σ H Q) : PW X ex t' := ⟨fun wh pins s σ H Q I q => h.run wh pins s σ H Q I (k σ H Q q)⟩
theorem _root_.L2.PA.w {ex : List Expr} {t t' : TA} (h : PA X ex t) (k : ∀ σ H Q, t' σ H Q → t σ H Q) : PA X ex t' := ⟨fun pos pins s σ H Q I q => h.run pos pins s σ H Q I (k σ H Q q)⟩
theorem _root_.L2.PK.w {ex : List Keyword} {t t' : TA} (h : PK X ex t) (k : ∀ σ H Q, t' σ H Q → t σ H Q) : PK X ex t' := ⟨fun pos pins s σ H Q I q => h.run pos pins s σ H Q I (k σ H Q q)⟩
theorem _root_.L2.PO.w {ex : Option Expr} {t t' : TO} (h : PO X ex t) (k : ∀ σ H Q, t' σ H Q → t σ H Q) : PO X ex t' := ⟨fun pins s σ H Q I q => h.run pins s σ H Q I (k σ H Q q)⟩
theorem _root_.L2.PTs.w {ex : List Expr} {t t' : TT} (h : PTs X ex t) (k : ∀ σ H Q, t' σ H Q → t σ H Q) : PTs X ex t' := ⟨fun pins s σ H Q I q => h.run pins s σ H Q I (k σ H Q q)⟩
theorem _root_.L2.PE.no {ex : Expr} {t : TE} (k : ∀ σ H Q, ¬ t σ H Q) : PE X ex t := ⟨fun pins s σ H Q I q => (k σ H Q q).elim⟩
theorem _root_.L2.PT.no {ex : Expr} {t : TT} (k : ∀ σ H Q, ¬ t σ H Q) : PT X ex t := ⟨fun pins s σ H Q I q => (k σ H Q q).elim⟩

/-- one more thing evaluated -/
theorem rdE_then {c : CE} {Q : VK} {d : D} (R : Rep W ι S H) (V : EnV W ι H e σ) (ev : evE C c e S = some (d, S1)) (k : ∀ ι1 H1 v, Ext ι S H ι1 S1 H1 → Rep W ι1 S1 H1 → DV W ι1 H1 d v → EnV W ι1 H1 e σ → Q v H1) : rdE W C c σ H Q :=
  ⟨ι, S, e, d, S1, R, V, ev, fun ι1 H1 v E R1 hv => k ι1 H1 v E R1 hv (V.mono E R)⟩
theorem rdA_then {c : CEs} {Q : List V → Hp → Prop} {d : List D} (R : Rep W ι S H) (V : EnV W ι H e σ) (ev : evEs C c e S = some (d, S1)) (k : ∀ ι1 H1 v, Ext ι S H ι1 S1 H1 → Rep W ι1 S1 H1 → DVs W ι1 H1 d v → EnV W ι1 H1 e σ → Q v H1) : rdA W C c σ H Q :=
  ⟨ι, S, e, d, S1, R, V, ev, fun ι1 H1 v E R1 hv => k ι1 H1 v E R1 hv (V.mono E R)⟩
theorem rdO_then {c : CO} {Q : Option Int → Hp → Prop} {o : Option Int} (R : Rep W ι S H) (V : EnV W ι H e σ) (ev : evO C c e S = some (o, S1)) (k : ∀ ι1 H1, Ext ι S H ι1 S1 H1 → Rep W ι1 S1 H1 → EnV W ι1 H1 e σ → Q o H1) : rdO W C c σ H Q :=
  ⟨ι, S, e, o, S1, R, V, ev, fun ι1 H1 E R1 => k ι1 H1 E R1 (V.mono E R)⟩
theorem rdT_then {c : CE} {Q : Bool → Hp → Prop} {b : Bool} (R : Rep W ι S H) (V : EnV W ι H e σ) (ev : tstE C c e S = some (b, S1)) (k : ∀ ι1 H1, Ext ι S H ι1 S1 H1 → Rep W ι1 S1 H1 → EnV W ι1 H1 e σ → Q b H1) : rdT W C c σ H Q :=
  ⟨ι, S, e, b, S1, R, V, ev, fun ι1 H1 E R1 => k ι1 H1 E R1 (V.mono E R)⟩
theorem tst_of {c : CE} {d : D} {b : Bool} (ev : evE C c e S = some (d, S1)) (h : truD d S1 = some b) : tstE C c e S = some (b, S1) := by
  unfold tstE
  rw [ev]
  simp only [h, Option.map_some]
theorem of_tst {c : CE} {b : Bool} (h : tstE C c e S = some (b, S1)) : ∃ d, evE C c e S = some (d, S1) ∧ truD d S1 = some b := by
  unfold tstE at h
  split at h
  · rename_i x S2 hx
    obtain ⟨z, e1, e2⟩ := Option.map_eq_some_iff.mp h
    cases e2
    exact ⟨x, hx, e1⟩
  · cases h

/-! ### constants, names -/
theorem ok_non {j pos} : PE X (.Constant .none j pos) (rdE W C .non) := pe_non.w fun σ H Q ⟨ι, S, e, d, S', R, V, ev, g⟩ => by
  simp only [evE] at ev
  cases ev
  exact g.here R rfl
theorem ok_bl {b j pos} : PE X (.Constant (.bool b) j pos) (rdE W C (.bl b)) := pe_bl.w fun σ H Q ⟨ι, S, e, d, S', R, V, ev, g⟩ => by
  simp only [evE] at ev
  cases ev
  exact g.here R rfl
theorem ok_int {i j pos} : PE X (.Constant (.int i) j pos) (rdE W C (.int i)) := pe_int.w fun σ H Q ⟨ι, S, e, d, S', R, V, ev, g⟩ => by
  simp only [evE] at ev
  cases ev
  exact g.here R rfl
theorem ok_str {x j pos} : PE X (.Constant (.str x) j pos) (rdE W C (.str x)) := pe_str.w fun σ H Q ⟨ι, S, e, d, S', R, V, ev, g⟩ => by
  simp only [evE] at ev
  cases ev
  exact g.here R rfl
theorem ok_var {i : Nat} {x : Str} {pos : Pos} (hN : X.N[i]? = some x) (hv : Vis X.env.scope x) (h1 : x ≠ "__debug__") (h2 : x ≠ "__classdict__") : PE X (.Name x pos) (rdE W C (.var i)) :=
  (pe_var hN hv (beq_eq_false_iff_ne.mpr h1) (beq_eq_false_iff_ne.mpr h2)).w fun σ H Q ⟨ι, S, e, d, S', R, V, ev, g⟩ => by
    simp only [evE] at ev
    split at ev
    · rename_i d' hd
      split at ev
      · cases ev
      · rename_i hl
        cases ev
        obtain ⟨v, e1, e2⟩ := V.2 i _ hd
        exact ⟨v, e1, g.here R (e2.dv (by simpa using hl))⟩
    · cases ev
theorem ok_glo {g : Nat} {x : Str} {v : V} {u : Value} {d : D} {pos : Pos} (hg : Gl X x) (hm : X.mg x = some u) (r : RelV v u) (h1 : x ≠ "__debug__") (hd : C.P.glos[g]? = some d) (hv : ∀ ι H, DV W ι H d v) : PE X (.Name x pos) (rdE W C (.glo g)) :=
  (pe_glob hg hm r (beq_eq_false_iff_ne.mpr h1)).w fun σ H Q ⟨ι, S, e, d', S', R, V, ev, g⟩ => by
    simp only [evE, hd, giv, Option.map_some] at ev
    cases ev
    exact g.here R (hv _ _)

/-! ### operators -/
variable {a b c : Expr} {ca cb cc : CE} {pos : Pos}
theorem ok_bin {op : Operator} (hK : X.K = W.K) (ha : PE X a (rdE W C ca)) (hb : PE X b (rdE W C cb)) : PE X (.BinOp a op b pos) (rdE W C (.bin op ca cb)) :=
  (pe_op (bin_ok hK op) ha hb).w fun σ H Q ⟨ι, S, e, d, S', R, V, ev, g⟩ => by
    simp only [evE] at ev
    obtain ⟨x, S1, e1, ev⟩ := bnd_some ev
    obtain ⟨y, S2, e2, ev⟩ := bnd_some ev
    exact rdE_then R V e1 fun ι1 H1 v E1 R1 hv V1 => rdE_then R1 V1 e2 fun ι2 H2 w E2 R2 hw V2 => ⟨ι2, S2, x, y, d, S', R2, DV.mono E2 R1 _ _ hv, hw, ev, (g.thru E1 R1).thru E2 R2⟩
theorem ok_neg (ha : PE X a (rdE W C ca)) : PE X (.UnaryOp .USub a pos) (rdE W C (.neg ca)) :=
  (pe_un un_neg ha).w fun σ H Q ⟨ι, S, e, d, S', R, V, ev, g⟩ => by
    simp only [evE] at ev
    obtain ⟨x, S1, e1, ev⟩ := bnd_some ev
    refine rdE_then R V e1 fun ι1 H1 v E1 R1 hv V1 => ?_
    split at ev
    · rename_i i
      cases ev
      exact ⟨i, hv, (g.thru E1 R1).here R1 rfl⟩
    · cases ev
/-- asked as a test -/
theorem ok_truth (hK : X.K = W.K) (ha : PE X a (rdE W C ca)) (he : ∀ whole, isTrue a X.env whole = (do let v ← whole; standAt a.pos; holding [v] (truthy v))) : PT X a (rdT W C ca) :=
  (pt_truth ha he).w fun σ H Q ⟨ι, S, e, b, S', R, V, ev, g⟩ => by
    obtain ⟨d, e1, e2⟩ := of_tst ev
    exact rdE_then R V e1 fun ι1 H1 v E1 R1 hv V1 => ⟨b, by rw [hK]; exact tru_of R1 e2 hv, (g.thru E1 R1).here R1⟩
theorem ok_not (hK : X.K = W.K) (ha : PE X a (rdE W C ca)) : PE X (.UnaryOp .Not a pos) (rdE W C (.notE ca)) :=
  (pe_notT ha).w fun σ H Q ⟨ι, S, e, d, S', R, V, ev, g⟩ => by
    simp only [evE] at ev
    obtain ⟨x, S1, e1, ev⟩ := bnd_some ev
    obtain ⟨ev, rfl⟩ := giv_eq ev
    obtain ⟨k, e2, rfl⟩ := Option.map_eq_some_iff.mp ev
    exact rdE_then R V e1 fun ι1 H1 v E1 R1 hv V1 => ⟨k, by rw [hK]; exact tru_of R1 e2 hv, (g.thru E1 R1).here R1 rfl⟩
theorem ok_notT (ha : PT X a (rdT W C ca)) : PT X (.UnaryOp .Not a pos) (rdT W C (.notE ca)) :=
  (pt_not ha).w fun σ H Q ⟨ι, S, e, b, S', R, V, ev, g⟩ => by
    obtain ⟨d, ev, e2⟩ := of_tst ev
    simp only [evE] at ev
    obtain ⟨x, S1, e1, ev⟩ := bnd_some ev
    obtain ⟨ev, rfl⟩ := giv_eq ev
    obtain ⟨k, e3, rfl⟩ := Option.map_eq_some_iff.mp ev
    cases e2
    exact rdT_then R V (tst_of e1 e3) fun ι1 H1 E1 R1 V1 => (g.thru E1 R1).here R1
theorem ok_and {rest : List Expr} (hK : X.K = W.K) (ha : PE X a (rdE W C ca)) (hb : PE X (.BoolOp .And (b :: rest) pos) (rdE W C cb)) : PE X (.BoolOp .And (a :: b :: rest) pos) (rdE W C (.andE ca cb)) :=
  (pe_andT ha hb).w fun σ H Q ⟨ι, S, e, d, S', R, V, ev, g⟩ => by
    simp only [evE] at ev
    obtain ⟨x, S1, e1, ev⟩ := bnd_some ev
    refine rdE_then R V e1 fun ι1 H1 v E1 R1 hv V1 => ?_
    split at ev
    · rename_i ht
      exact ⟨true, by rw [hK]; exact tru_of R1 ht hv, ⟨ι1, S1, e, d, S', R1, V1, ev, g.thru E1 R1⟩⟩
    · rename_i ht
      cases ev
      exact ⟨false, by rw [hK]; exact tru_of R1 ht hv, (g.thru E1 R1).here R1 hv⟩
    · cases ev
theorem ok_or {rest : List Expr} (hK : X.K = W.K) (ha : PE X a (rdE W C ca)) (hb : PE X (.BoolOp .Or (b :: rest) pos) (rdE W C cb)) : PE X (.BoolOp .Or (a :: b :: rest) pos) (rdE W C (.orE ca cb)) :=
  (pe_orT ha hb).w fun σ H Q ⟨ι, S, e, d, S', R, V, ev, g⟩ => by
    simp only [evE] at ev
    obtain ⟨x, S1, e1, ev⟩ := bnd_some ev
    refine rdE_then R V e1 fun ι1 H1 v E1 R1 hv V1 => ?_
    split at ev
    · rename_i ht
      cases ev
      exact ⟨true, by rw [hK]; exact tru_of R1 ht hv, (g.thru E1 R1).here R1 hv⟩
    · rename_i ht
      exact ⟨false, by rw [hK]; exact tru_of R1 ht hv, ⟨ι1, S1, e, d, S', R1, V1, ev, g.thru E1 R1⟩⟩
    · cases ev
theorem ok_andW {rest : List Expr} (ha : PT X a (rdT W C ca)) (hb : PW X (.BoolOp .And (b :: rest) pos) (rdT W C cb)) : PW X (.BoolOp .And (a :: b :: rest) pos) (rdT W C (.andE ca cb)) :=
  (pw_and ha hb).w fun σ H Q ⟨ι, S, e, k, S', R, V, ev, g⟩ => by
    obtain ⟨d, ev, e2⟩ := of_tst ev
    simp only [evE] at ev
    obtain ⟨x, S1, e1, ev⟩ := bnd_some ev
    split at ev
    · rename_i ht
      exact rdT_then R V (tst_of e1 ht) fun ι1 H1 E1 R1 V1 => ⟨ι1, S1, e, k, S', R1, V1, tst_of ev e2, g.thru E1 R1⟩
    · rename_i ht
      cases ev
      rw [ht] at e2
      cases e2
      exact rdT_then R V (tst_of e1 ht) fun ι1 H1 E1 R1 V1 => (g.thru E1 R1).here R1
    · cases ev
theorem ok_orW {rest : List Expr} (ha : PT X a (rdT W C ca)) (hb : PW X (.BoolOp .Or (b :: rest) pos) (rdT W C cb)) : PW X (.BoolOp .Or (a :: b :: rest) pos) (rdT W C (.orE ca cb)) :=
  (pw_or ha hb).w fun σ H Q ⟨ι, S, e, k, S', R, V, ev, g⟩ => by
    obtain ⟨d, ev, e2⟩ := of_tst ev
    simp only [evE] at ev
    obtain ⟨x, S1, e1, ev⟩ := bnd_some ev
    split at ev
    · rename_i ht
      cases ev
      rw [ht] at e2
      cases e2
      exact rdT_then R V (tst_of e1 ht) fun ι1 H1 E1 R1 V1 => (g.thru E1 R1).here R1
    · rename_i ht
      exact rdT_then R V (tst_of e1 ht) fun ι1 H1 E1 R1 V1 => ⟨ι1, S1, e, k, S', R1, V1, tst_of ev e2, g.thru E1 R1⟩
    · cases ev
theorem ok_if (hc : PT X c (rdT W C cc)) (ha : PE X a (rdE W C ca)) (hb : PE X b (rdE W C cb)) : PE X (.IfExp c a b pos) (rdE W C (.ifE cc ca cb)) :=
  (pe_ifExp hc ha hb).w fun σ H Q ⟨ι, S, e, d, S', R, V, ev, g⟩ => by
    simp only [evE] at ev
    obtain ⟨x, S1, e1, ev⟩ := bnd_some ev
    split at ev
    · rename_i ht
      exact rdT_then R V (tst_of e1 ht) fun ι1 H1 E1 R1 V1 => ⟨ι1, S1, e, d, S', R1, V1, ev, g.thru E1 R1⟩
    · rename_i ht
      exact rdT_then R V (tst_of e1 ht) fun ι1 H1 E1 R1 V1 => ⟨ι1, S1, e, d, S', R1, V1, ev, g.thru E1 R1⟩
    · cases ev
theorem pt_if {tc ta tb : TT} (hc : PT X c tc) (ha : PT X a ta) (hb : PT X b tb) : PT X (.IfExp c a b pos) (fun σ H Q => tc σ H fun k H1 => if k = true then ta σ H1 Q else tb σ H1 Q) := by
  refine ⟨fun pins s σ H Q I h => ?_⟩
  rw [PySem.isTrue]
  refine wpAny_bind (thn (hc.run pins s σ H _ I h) fun k s1 ⟨H1, I1, q⟩ => ?_)
  cases k with
  | true => exact ha.run pins s1 σ H1 Q I1 q
  | false => exact hb.run pins s1 σ H1 Q I1 q
theorem ok_ifT (hc : PT X c (rdT W C cc)) (ha : PT X a (rdT W C ca)) (hb : PT X b (rdT W C cb)) : PT X (.IfExp c a b pos) (rdT W C (.ifE cc ca cb)) :=
  (pt_if hc ha hb).w fun σ H Q ⟨ι, S, e, k, S', R, V, ev, g⟩ => by
    obtain ⟨d, ev, e2⟩ := of_tst ev
    simp only [evE] at ev
    obtain ⟨x, S1, e1, ev⟩ := bnd_some ev
    split at ev
    · rename_i ht
      exact rdT_then R V (tst_of e1 ht) fun ι1 H1 E1 R1 V1 => ⟨ι1, S1, e, k, S', R1, V1, tst_of ev e2, g.thru E1 R1⟩
    · rename_i ht
      exact rdT_then R V (tst_of e1 ht) fun ι1 H1 E1 R1 V1 => ⟨ι1, S1, e, k, S', R1, V1, tst_of ev e2, g.thru E1 R1⟩
    · cases ev
/-! ### comparisons -/
theorem rd_cmp {op : CmpOp} (σ : L2.St) (H : Hp) (Q : VK) : rdE W C (.cmp op ca cb) σ H Q → tOp (rCmp W op) (rdE W C ca) (rdE W C cb) σ H Q := fun ⟨ι, S, e, d, S', R, V, ev, g⟩ => by
  simp only [evE] at ev
  obtain ⟨x, S1, e1, ev⟩ := bnd_some ev
  obtain ⟨y, S2, e2, ev⟩ := bnd_some ev
  obtain ⟨ev, rfl⟩ := giv_eq ev
  obtain ⟨k, e3, rfl⟩ := Option.map_eq_some_iff.mp ev
  exact rdE_then R V e1 fun ι1 H1 v E1 R1 hv V1 => rdE_then R1 V1 e2 fun ι2 H2 w E2 R2 hw V2 => ⟨ι2, _, x, y, k, R2, DV.mono E2 R1 _ _ hv, hw, e3, ((g.thru E1 R1).thru E2 R2).here R2 rfl⟩
theorem ok_cmp {op : CmpOp} (hK : X.K = W.K) (hw : X.w = W.w) (hu : X.A.units + 64 < cLine) (ha : PE X a (rdE W C ca)) (hb : PE X b (rdE W C cb)) (hm : behindInMarks op b = false) : PE X (.Compare a [op] [b] pos) (rdE W C (.cmp op ca cb)) :=
  (pe_cmpR (cmp_ok hK hw hu op) ha hb hm).w rd_cmp
theorem bl_tst {cx : CE} {b : Bool} (h : tstE C cx e S = some (b, S1)) (hb : ∀ d S', evE C cx e S = some (d, S') → ∃ k, d = .bl k) : evE C cx e S = some (.bl b, S1) := by
  obtain ⟨d, e1, e2⟩ := of_tst h
  obtain ⟨k, rfl⟩ := hb _ _ e1
  cases e2
  exact e1
theorem cmp_bl {op : CmpOp} (d : D) (S' : Sto) (h : evE C (.cmp op ca cb) e S = some (d, S')) : ∃ k, d = .bl k := by
  simp only [evE] at h
  obtain ⟨x, S1, e1, ev⟩ := bnd_some h
  obtain ⟨y, S2, e2, ev⟩ := bnd_some ev
  obtain ⟨ev, rfl⟩ := giv_eq ev
  obtain ⟨k, e3, rfl⟩ := Option.map_eq_some_iff.mp ev
  exact ⟨k, rfl⟩
theorem rdT_bl {cx : CE} {σ : L2.St} {H : Hp} {Q : Bool → Hp → Prop} (hb : ∀ e S d S', evE C cx e S = some (d, S') → ∃ k, d = .bl k) (h : rdT W C cx σ H Q) : rdE W C cx σ H fun x H' => ∃ k, x = .bl k ∧ Q k H' := by
  obtain ⟨ι, S, e, b, S', R, V, ev, g⟩ := h
  exact rdE_then R V (bl_tst ev (hb e S)) fun ι1 H1 v E1 R1 hv V1 => ⟨b, hv, (g.thru E1 R1).here R1⟩
theorem ok_cmpT {op : CmpOp} (hK : X.K = W.K) (hw : X.w = W.w) (hu : X.A.units + 64 < cLine) (ha : PE X a (rdE W C ca)) (hb : PE X b (rdE W C cb)) (hm : behindInMarks op b = false) : PT X (.Compare a [op] [b] pos) (rdT W C (.cmp op ca cb)) :=
  (pt_cmpR (cmp_ok hK hw hu op) ha hb hm).w fun σ H Q h => rd_cmp _ _ _ (rdT_bl (fun e S => cmp_bl) h)
theorem rd_chain {op op2 : CmpOp} (σ : L2.St) (H : Hp) (Q : VK) : rdE W C (.chain op op2 ca cb cc) σ H Q → tChain (rCmp W op) (rCmp W op2) (rdE W C ca) (rdE W C cb) (rdE W C cc) σ H Q := fun ⟨ι, S, e, d, S', R, V, ev, g⟩ => by
  simp only [evE] at ev
  obtain ⟨x, S1, e1, ev⟩ := bnd_some ev
  obtain ⟨y, S2, e2, ev⟩ := bnd_some ev
  refine rdE_then R V e1 fun ι1 H1 v E1 R1 hv V1 => rdE_then R1 V1 e2 fun ι2 H2 w E2 R2 hw V2 => ?_
  split at ev
  · rename_i hc
    refine ⟨ι2, _, x, y, true, R2, DV.mono E2 R1 _ _ hv, hw, hc, true, rfl, ?_⟩
    rw [if_pos rfl]
    obtain ⟨z, S3, e3, ev⟩ := bnd_some ev
    obtain ⟨ev, rfl⟩ := giv_eq ev
    obtain ⟨k, e4, rfl⟩ := Option.map_eq_some_iff.mp ev
    exact rdE_then R2 V2 e3 fun ι3 H3 u E3 R3 hu V3 => ⟨ι3, _, y, z, k, R3, DV.mono E3 R2 _ _ hw, hu, e4, (((g.thru E1 R1).thru E2 R2).thru E3 R3).here R3 rfl⟩
  · rename_i hc
    cases ev
    refine ⟨ι2, _, x, y, false, R2, DV.mono E2 R1 _ _ hv, hw, hc, false, rfl, ?_⟩
    rw [if_neg (by decide)]
    exact ((g.thru E1 R1).thru E2 R2).here R2 rfl
  · cases ev
theorem chain_bl {op op2 : CmpOp} (d : D) (S' : Sto) (h : evE C (.chain op op2 ca cb cc) e S = some (d, S')) : ∃ k, d = .bl k := by
  simp only [evE] at h
  obtain ⟨x, S1, e1, ev⟩ := bnd_some h
  obtain ⟨y, S2, e2, ev⟩ := bnd_some ev
  split at ev
  · obtain ⟨z, S3, e3, ev⟩ := bnd_some ev
    obtain ⟨ev, rfl⟩ := giv_eq ev
    obtain ⟨k, e4, rfl⟩ := Option.map_eq_some_iff.mp ev
    exact ⟨k, rfl⟩
  · cases ev
    exact ⟨false, rfl⟩
  · cases ev
theorem ok_chain {op op2 : CmpOp} (hK : X.K = W.K) (hw : X.w = W.w) (hu : X.A.units + 64 < cLine) (ha : PE X a (rdE W C ca)) (hb : PE X b (rdE W C cb)) (hc : PE X c (rdE W C cc)) (hm : behindInMarks op2 c = false) : PE X (.Compare a [op, op2] [b, c] pos) (rdE W C (.chain op op2 ca cb cc)) :=
  (pe_chain (cmp_ok hK hw hu op) (cmp_ok hK hw hu op2) ha hb hc hm).w rd_chain
theorem ok_chainT {op op2 : CmpOp} (hK : X.K = W.K) (hw : X.w = W.w) (hu : X.A.units + 64 < cLine) (ha : PE X a (rdE W C ca)) (hb : PE X b (rdE W C cb)) (hc : PE X c (rdE W C cc)) (hm : behindInMarks op2 c = false) : PT X (.Compare a [op, op2] [b, c] pos) (rdT W C (.chain op op2 ca cb cc)) :=
  (pt_chain (cmp_ok hK hw hu op) (cmp_ok hK hw hu op2) ha hb hc hm).w fun σ H Q h => rd_chain _ _ _ (rdT_bl (fun e S => chain_bl) h)
/-! ### lists of expressions -/
variable {es : List Expr} {cs : CEs}
theorem ok_nil : PA X [] (rdA W C .nil) := pa_nil.w fun σ H Q ⟨ι, S, e, ds, S', R, V, ev, g⟩ => by
  simp only [evEs] at ev
  cases ev
  exact g _ _ _ .refl R rfl
theorem rd_cons {σ : L2.St} {H : Hp} {Q : List V → Hp → Prop} : rdA W C (.cons ca cs) σ H Q → tCons (rdE W C ca) (rdA W C cs) σ H Q := fun ⟨ι, S, e, ds, S', R, V, ev, g⟩ => by
  simp only [evEs] at ev
  obtain ⟨x, S1, e1, ev⟩ := bnd_some ev
  obtain ⟨xs, S2, e2, ev⟩ := bnd_some ev
  cases ev
  exact rdE_then R V e1 fun ι1 H1 v E1 R1 hv V1 => rdA_then R1 V1 e2 fun ι2 H2 w E2 R2 hw V2 => g _ _ _ (E1.trans R1 E2) R2 ⟨v, w, rfl, DV.mono E2 R1 _ _ hv, hw⟩
theorem ok_cons (ha : PE X a (rdE W C ca)) (hs : PA X es (rdA W C cs)) (hn : notStar a = true) : PA X (a :: es) (rdA W C (.cons ca cs)) := (pa_cons ha hs (star_cons hn)).w fun _ _ _ => rd_cons
theorem ok_tup {k : Nat} (hs : PA X es (rdA W C cs)) : PE X (.Tuple es k pos) (rdE W C (.tupE cs)) := (pe_tup hs).w fun σ H Q ⟨ι, S, e, d, S', R, V, ev, g⟩ => by
  simp only [evE] at ev
  obtain ⟨xs, S1, e1, ev⟩ := bnd_some ev
  split at ev
  · rename_i hl
    cases ev
    exact rdA_then R V e1 fun ι1 H1 vs E1 R1 hv V1 => ⟨by rw [← DVs.length hv]; exact hl, fun p hp => (g.thru E1 R1).tup R1 hv hp⟩
  · cases ev
theorem ok_lst (hs : PA X es (rdA W C cs)) : PE X (.List es pos) (rdE W C (.lstE cs)) := (pe_lst hs).w fun σ H Q ⟨ι, S, e, d, S', R, V, ev, g⟩ => by
  simp only [evE] at ev
  obtain ⟨xs, S1, e1, ev⟩ := bnd_some ev
  split at ev
  · rename_i hl
    cases ev
    exact rdA_then R V e1 fun ι1 H1 vs E1 R1 hv V1 => ⟨by rw [← DVs.length hv]; exact hl, fun p hp => (g.thru E1 R1).lst R1 hv hp⟩
  · cases ev
theorem ok_ix {i : Expr} {ci : CE} (hK : X.K = W.K) (hw : X.w = W.w) (hu : X.A.units + 64 < cLine) (ha : PE X a (rdE W C ca)) (hi : PE X i (rdE W C ci)) (hp : PlainIx i) : PE X (.Subscript a i pos) (rdE W C (.idx ca ci)) :=
  (pe_ix (idx_ok hK hw hu) ha hi hp).w fun σ H Q ⟨ι, S, e, d, S', R, V, ev, g⟩ => by
    simp only [evE] at ev
    obtain ⟨x, S1, e1, ev⟩ := bnd_some ev
    obtain ⟨y, S2, e2, ev⟩ := bnd_some ev
    obtain ⟨ev, rfl⟩ := giv_eq ev
    exact rdE_then R V e1 fun ι1 H1 v E1 R1 hv V1 => rdE_then R1 V1 e2 fun ι2 H2 w E2 R2 hw V2 => ⟨ι2, _, x, y, d, R2, DV.mono E2 R1 _ _ hv, hw, ev, fun v hv => ((g.thru E1 R1).thru E2 R2).here R2 hv⟩
theorem ok_no : PO X none (rdO W C .no) := po_none.w fun σ H Q ⟨ι, S, e, o, S', R, V, ev, g⟩ => by
  simp only [evO] at ev
  cases ev
  exact g.here R
theorem ok_so (ha : PE X a (rdE W C ca)) : PO X (some a) (rdO W C (.so ca)) := (po_some ha).w fun σ H Q ⟨ι, S, e, o, S', R, V, ev, g⟩ => by
  simp only [evO] at ev
  obtain ⟨x, S1, e1, ev⟩ := bnd_some ev
  refine rdE_then R V e1 fun ι1 H1 v E1 R1 hv V1 => ?_
  split at ev
  · rename_i i
    cases ev
    exact ⟨i, hv, (g.thru E1 R1).here R1⟩
  · cases ev
theorem ok_slc {lo hi : Option Expr} {cl ch : CO} {p2 : Pos} (hK : X.K = W.K) (ha : PE X a (rdE W C ca)) (hl : PO X lo (rdO W C cl)) (hh : PO X hi (rdO W C ch)) : PE X (.Subscript a (.Slice lo hi none p2) pos) (rdE W C (.slc ca cl ch)) :=
  (pe_slice (slc_ok hK) ha hl hh).w fun σ H Q ⟨ι, S, e, d, S', R, V, ev, g⟩ => by
    simp only [evE] at ev
    obtain ⟨x, S1, e1, ev⟩ := bnd_some ev
    obtain ⟨y, S2, e2, ev⟩ := bnd_some ev
    obtain ⟨z, S3, e3, ev⟩ := bnd_some ev
    exact rdE_then R V e1 fun ι1 H1 v E1 R1 hv V1 => rdO_then R1 V1 e2 fun ι2 H2 E2 R2 V2 => rdO_then R2 V2 e3 fun ι3 H3 E3 R3 V3 =>
      ⟨ι3, S3, x, d, S', R3, DV.mono E3 R2 _ _ (DV.mono E2 R1 _ _ hv), ev, ((g.thru E1 R1).thru E2 R2).thru E3 R3⟩
theorem lstD_of (R : Rep W ι S H) {d : D} {xs : List D} {v : V} (h : lstD d S = some xs) (hv : DV W ι H d v) : ∃ a vs, v = .ref a ∧ SqL W.K H a vs ∧ DVs W ι H xs vs := by
  unfold lstD at h
  split at h
  · cases h
    obtain ⟨a, vs, e, q, r⟩ := hv
    refine ⟨a, vs, e, ?_, r⟩
    rcases q with ⟨o, q⟩ | q
    · exact .inl (.inr ⟨o, q⟩)
    · exact .inr q
  · rename_i n
    obtain ⟨a, e, ha⟩ := hv
    split at h
    · rename_i ys hs
      cases h
      obtain ⟨vs, q, r⟩ := R.ob n a _ ha hs
      exact ⟨a, vs, e, .of q, r⟩
    · rename_i ys hs
      cases h
      obtain ⟨vs, q, r⟩ := R.ob n a _ ha hs
      exact ⟨a, vs, e, .of q, r⟩
    · cases h
  · cases h
theorem ok_rev {k : Nat} {p1 p2 p3 : Pos} (hK : X.K = W.K) (ha : PE X a (rdE W C ca)) : PE X (.Subscript a (.Slice none none (some (.UnaryOp .USub (.Constant (.int 1) k p1) p2)) p3) pos) (rdE W C (.rev ca)) :=
  (pe_revL ha).w fun σ H Q ⟨ι, S, e, d, S', R, V, ev, g⟩ => by
    simp only [evE] at ev
    obtain ⟨x, S1, e1, ev⟩ := bnd_some ev
    refine rdE_then R V e1 fun ι1 H1 v E1 R1 hv V1 => ?_
    split at ev
    · rename_i xs hx
      cases ev
      obtain ⟨a, vs, rfl, hq, hd⟩ := lstD_of R1 hx hv
      exact ⟨a, vs, rfl, by rw [hK]; exact hq, fun p hp => (g.thru E1 R1).lst R1 (DVs.rev hd) hp⟩
    · cases ev
end
end PC
end
section
set_option Elab.async false
set_option linter.all false
set_option maxRecDepth 100000
set_option maxHeartbeats 1000000
/-! PC: calls of built-in things, methods, displays. -/
namespace PC
open PySem L2
section
variable {W : Wd} {C : Cal} {ι ι' ι1 ι2 : List Addr} {S S' S0 S1 S2 : Sto} {H H' H1 H2 : Hp} {e e' : En} {σ σ' : L2.St} {X : Cx} {a b c : Expr} {ca cb cc : CE} {pos p : Pos} {es : List Expr} {cs : CEs}
theorem bi_boot : ∀ q ∈ biOf, bootBuiltins q.1 = some (biV q.2) ∧ q.1 ≠ "__name__" := by
  intro q hq
  simp only [biOf, List.mem_cons, List.not_mem_nil, or_false] at hq
  rcases hq with rfl | rfl | rfl | rfl | rfl | rfl | rfl | rfl | rfl | rfl | rfl | rfl | rfl <;> exact ⟨rfl, by decide⟩
theorem mem_of_lookup {α : Type} : ∀ {l : List (Str × α)} {x : Str} {y : α}, l.lookup x = some y → (x, y) ∈ l
  | [], _, _, h => by cases h
  | (z, w) :: r, x, y, h => by
    rw [List.lookup_cons] at h
    split at h
    · rename_i hx
      cases h
      rw [beq_iff_eq.mp hx]
      exact List.mem_cons_self
    · exact List.mem_cons_of_mem _ (mem_of_lookup h)
theorem pe_biV {f : Str} {bi : Bi} {r : List V → Hp → VK → Prop} {t : TA} (hc : CallR X (biV bi) r) (hg : Gl X f) (hm : X.mg f = none) (hv : bootBuiltins f = some (biV bi)) (hn : f ≠ "__name__") (hd : f ≠ "__debug__") (ha : PA X (a :: es) t) (hs : (a :: es).all notStar = true) :
    PE X (.Call (.Name f p) (a :: es) [] pos) (tCB r t) := by
  rw [List.all_cons, Bool.and_eq_true] at hs
  have h1 := star_cons (env := X.env) (es := es) hs.1
  have h2 : (backTo pos (starEach es X.env)).any (·.1) = false := back_any hs.2
  have hd' := beq_eq_false_iff_ne.mpr hd
  cases bi <;> first
    | exact pe_callB hc hg hm hv ha hn hd' h1 h2
    | exact pe_callTy hc hg hm hv ha hn hd' h1 h2
theorem ok_bi {f : Str} {bi : Bi} (hgd : X.A.guards = some []) (hc : X.calm = true) (hK : X.K = W.K) (hu : X.A.units + 200 < cLine) (hg : Gl X f) (hm : X.mg f = none) (hb : biOf.lookup f = some bi) (hd : f ≠ "__debug__") (ha : PA X (a :: es) (rdA W C cs)) (hs : (a :: es).all notStar = true) :
    PE X (.Call (.Name f p) (a :: es) [] pos) (rdE W C (.bi bi cs)) :=
  (pe_biV (bi_ok hgd hc hK hu bi) hg hm (bi_boot _ (mem_of_lookup hb)).1 (bi_boot _ (mem_of_lookup hb)).2 hd ha hs).w fun σ H Q ⟨ι, S, e, d, S', R, V, ev, g⟩ => by
    simp only [evE] at ev
    obtain ⟨xs, S1, e1, ev⟩ := bnd_some ev
    exact rdA_then R V e1 fun ι1 H1 vs E1 R1 hv V1 => ⟨ι1, S1, xs, d, S', R1, hv, ev, g.thru E1 R1⟩
/-! ### isinstance -/
def tyS : Ty → String
  | .int => "int"
  | .str => "str"
  | .bool => "bool"
  | .list => "list"
  | .tuple => "tuple"
  | .dict => "dict"
  | .cls _ => "int"
theorem ty_boot : ∀ q ∈ tyNm, bootBuiltins q.1 = some (.type (tyS q.2)) ∧ q.1 ≠ "__name__" ∧ q.1 ≠ "__debug__" ∧ ∀ c, q.2 ≠ .cls c := by
  intro q hq
  simp only [tyNm, List.mem_cons, List.not_mem_nil, or_false] at hq
  rcases hq with rfl | rfl | rfl | rfl | rfl | rfl <;> exact ⟨rfl, by decide, by decide, fun c h => by cases h⟩
theorem kit_tys {K : PySem.W.Frag} {n : String} (t : Ty) (ht : ∀ c, t ≠ .cls c) :
    (PySem.W.kitOne K (.type "NoneType") (.type (tyS t)) = some false) ∧ (PySem.W.kitOne K (.type "bool") (.type (tyS t)) = some (t == .bool || t == .int)) ∧ (PySem.W.kitOne K (.type "int") (.type (tyS t)) = some (t == .int)) ∧ (PySem.W.kitOne K (.type "str") (.type (tyS t)) = some (t == .str)) ∧
    (PySem.W.kitOne K (.type "tuple") (.type (tyS t)) = some (t == .tuple)) ∧ (PySem.W.kitOne K (.type "list") (.type (tyS t)) = some (t == .list)) ∧ (PySem.W.kitOne K (.type "dict") (.type (tyS t)) = some (t == .dict)) := by
  cases t with
  | cls c => exact absurd rfl (ht c)
  | _ => exact ⟨kit_ty (by decide), kit_ty (by decide), kit_ty (by decide), kit_ty (by decide), kit_ty (by decide), kit_ty (by decide), kit_ty (by decide)⟩
theorem ty_of (R : Rep W ι S H) {d : D} {x : V} {t : Ty} {b : Bool} (ht : ∀ c, t ≠ .cls c) (h : tyD t d S = some b) (hv : DV W ι H d x) : ∃ u, TyX W.K H x u ∧ PySem.W.kitOne W.K u (.type (tyS t)) = some b := by
  obtain ⟨k1, k2, k3, k4, k5, k6, k7⟩ := kit_tys (K := W.K) (n := "") t ht
  unfold tyD at h
  cases d with
  | non => cases h; cases hv; exact ⟨_, .base .non, k1⟩
  | bl k => cases h; cases hv; exact ⟨_, .base (.bl _), k2⟩
  | int i => cases h; cases hv; exact ⟨_, .base (.int _), k3⟩
  | str i => cases h; cases hv; exact ⟨_, .base (.str _), k4⟩
  | tup xs =>
    cases h
    obtain ⟨a, vs, rfl, q, r⟩ := hv
    rcases q with (q | ⟨o, q⟩) | ⟨o, its, n, q1, q2, q3⟩
    · exact ⟨_, .base (.tup q), k5⟩
    · exact ⟨_, .fTuple q, k5⟩
    · exact ⟨_, .kTuple q1 q2, k5⟩
  | frl xs => cases h
  | fn n => cases h
  | lam _ _ => cases h
  | exc _ _ _ => cases h
  | exn _ => cases h
  | ref n =>
    obtain ⟨a, rfl, ha⟩ := hv
    simp only at h
    split at h
    · rename_i xs hs
      cases h
      obtain ⟨vs, q, r⟩ := R.ob n a _ ha hs
      exact ⟨_, .base (.lst q), k6⟩
    · rename_i xs hs
      cases h
      obtain ⟨vs, q, r⟩ := R.ob n a _ ha hs
      exact ⟨_, .base (.lst q), k6⟩
    · rename_i xs hs
      cases h
      obtain ⟨vs, q, r⟩ := R.ob n a _ ha hs
      exact ⟨_, .base (.dK q), k7⟩
    · rename_i c fs hs
      cases t with
      | cls c => exact absurd rfl (ht c)
      | _ => cases h
    · cases h
theorem gl_type {y : Str} {t : Ty} {p2 : Pos} (hg : Gl X y) (hm : X.mg y = none) (ht : tyNm.lookup y = some t) : PE X (.Name y p2) (tC (.ty (tyS t))) :=
  have h := ty_boot _ (mem_of_lookup ht)
  pe_bltn hg hm h.1 rfl h.2.1 (beq_eq_false_iff_ne.mpr h.2.2.1)
theorem boot_isi : bootBuiltins "isinstance" = some (.builtin "isinstance") := rfl
theorem ok_isi {y : Str} {t : Ty} {p2 : Pos} (hK : X.K = W.K) (hg : Gl X "isinstance") (hm : X.mg "isinstance" = none) (hgy : Gl X y) (hmy : X.mg y = none) (ht : tyNm.lookup y = some t) (ha : PE X a (rdE W C ca)) (hs : notStar a = true) :
    PE X (.Call (.Name "isinstance" p) [a, .Name y p2] [] pos) (rdE W C (.isi ca [t])) :=
  (pe_callB (t := tCons (rdE W C ca) (tCons (tC (.ty (tyS t))) tNil)) call_isi hg hm boot_isi (pa_cons ha (pa_cons (gl_type hgy hmy ht) pa_nil (star_cons rfl)) (star_cons hs)) (by decide) (by decide) (star_cons hs) (back_any rfl)).w fun σ H Q ⟨ι, S, e, d, S', R, V, ev, g⟩ => by
    simp only [evE] at ev
    obtain ⟨x, S1, e1, ev⟩ := bnd_some ev
    obtain ⟨ev, rfl⟩ := giv_eq ev
    obtain ⟨k, e2, rfl⟩ := Option.map_eq_some_iff.mp ev
    refine rdE_then R V e1 fun ι1 H1 v E1 R1 hv V1 => ?_
    have e3 : tyD t x S' = some k := by
      simp only [isiD] at e2
      split at e2
      · rename_i z
        rw [z, e2]
      · rename_i z
        rw [z, e2]
      · cases e2
    obtain ⟨u, h1, h2⟩ := ty_of R1 (ty_boot _ (mem_of_lookup ht)).2.2.2 e3 hv
    exact ⟨v, .ty (tyS t), u, .type (tyS t), k, rfl, .ty _, by rw [hK]; exact h1, by rw [hK]; exact h2, (g.thru E1 R1).here R1 rfl⟩

/-! ### methods -/
theorem base_of {o : Expr} {m : Str} {env : Env} {w : Sem Value} (h : isCall o = false) : attributeBase o m env w = w := by
  cases o <;> first
    | rfl
    | cases h
theorem metK_ref {n : Nat} (hc : metK (.ref n) S = true) (R : Rep W ι S H) {v : V} (hv : DV W ι H (.ref n) v) : tyV W.K "list" v H := by
  obtain ⟨a, rfl, ha⟩ := hv
  unfold metK at hc
  simp only at hc
  split at hc
  · rename_i xs hs
    obtain ⟨vs, q, r⟩ := R.ob n a _ ha hs
    exact .inl ⟨rfl, vs, .of q⟩
  · rename_i xs hs
    obtain ⟨vs, q, r⟩ := R.ob n a _ ha hs
    exact .inl ⟨rfl, vs, .of q⟩
  · cases hc
theorem fz_lst {n : Nat} {xs : List D} (h : S[n]? = some (.lst xs)) : ¬ Fz S[n]? := by
  rw [h]
  exact id
theorem ev_met {o : CE} {m : Str} {as : CEs} {d : D} (h : evE C (.meth o m as) e S = some (d, S')) : ∃ x S1 xs S2, evE C o e S = some (x, S1) ∧ metK x S1 = true ∧ evEs C as e S1 = some (xs, S2) ∧ metD x m xs S2 = some (d, S') := by
  simp only [evE] at h
  obtain ⟨x, S1, e1, h⟩ := bnd_some h
  split at h
  · rename_i hk
    obtain ⟨xs, S2, e2, h⟩ := bnd_some h
    exact ⟨x, S1, xs, S2, e1, hk, e2, h⟩
  · cases h
theorem ev_one {c : CE} {xs : List D} (h : evEs C (.cons c .nil) e S = some (xs, S')) : ∃ x, xs = [x] ∧ evE C c e S = some (x, S') := by
  simp only [evEs] at h
  obtain ⟨x, S1, e1, h⟩ := bnd_some h
  simp only [bnd] at h
  cases h
  exact ⟨x, rfl, e1⟩
theorem few1 {env : Env} {cp : Pos} (hs : notStar b = true) : ((backTo cp (starEach [b] env)).all (fun x => !x.1) && (backToKw cp (keywordEach [] env)).all (fun x => x.1.isSome) && decide (([b] : List Expr).length + ([] : List Keyword).length + (if ([] : List Keyword).isEmpty then 0 else 1) < 30)) = true := by
  rw [star_cons hs]
  rfl
/-- a method of lists, of one argument -/
theorem ok_lm1 {ap cp : Pos} {m : Str} {id : String} {r : V → List V → Hp → VK → Prop} (hK : X.K = W.K) (slot : Slot "list" m id) (hty : typeOf (.builtin id) = pure (.type "method_descriptor")) (hm : MtR X id r) (ho : PE X a (rdE W C ca)) (hb : PE X b (rdE W C cb)) (hs : notStar b = true) (hc : isCall a = false) (hl : (ap.endLine == cp.line) = true)
    (hk : ∀ x y S r', metD x m [y] S = some r' → ∃ n, x = .ref n)
    (k : ∀ ι S H x y v w d S' Q, Rep W ι S H → DV W ι H x v → DV W ι H y w → metD x m [y] S = some (d, S') → Gd W ι S H S' d Q → r v [w] H Q) :
    PE X (.Call (.Attribute a m ap) [b] [] cp) (rdE W C (.meth ca m (.cons cb .nil))) :=
  (pe_bm PySem.F.plainAttrs_list slot hty hm ho (ok_cons hb ok_nil hs) (base_of hc) (few1 hs) hl (star_cons hs) (back_any rfl)).w fun σ H Q ⟨ι, S, e, d, S', R, V, ev, g⟩ => by
    obtain ⟨x, S1, xs, S2, e1, hk1, e2, h⟩ := ev_met ev
    obtain ⟨y, rfl, e2'⟩ := ev_one e2
    obtain ⟨n, rfl⟩ := hk _ _ _ _ h
    refine rdE_then R V e1 fun ι1 H1 v E1 R1 hv V1 => ⟨by rw [hK]; exact metK_ref hk1 R1 hv, rdA_then R1 V1 e2 fun ι2 H2 ws E2 R2 hw V2 => ?_⟩
    obtain ⟨w, rfl, hw'⟩ := one_of hw
    exact k ι2 S2 H2 _ y v w d S' Q R2 (DV.mono E2 R1 _ _ hv) hw' h ((g.thru E1 R1).thru E2 R2)
theorem ok_append {ap cp : Pos} (hK : X.K = W.K) (ho : PE X a (rdE W C ca)) (hb : PE X b (rdE W C cb)) (hs : notStar b = true) (hc : isCall a = false) (hl : (ap.endLine == cp.line) = true) :
    PE X (.Call (.Attribute a "append" ap) [b] [] cp) (rdE W C (.meth ca "append" (.cons cb .nil))) := by
  have eq : ∀ x y S, metD x "append" [y] S = mAppend x y S := fun x y S => rfl
  refine ok_lm1 hK PySem.F.slot_list_append PySem.F.type_list_append mt_append ho hb hs hc hl (fun x y S r h => ?_) fun ι S H x y v w d S' Q R hv hw h g => ?_
  · rw [eq] at h
    unfold mAppend at h
    split at h
    · exact ⟨_, rfl⟩
    · cases h
  · rw [eq] at h
    unfold mAppend at h
    split at h
    · rename_i n
      obtain ⟨l, rfl, hl⟩ := hv
      split at h
      · rename_i xs hs
        obtain ⟨vs, q, r⟩ := R.ob n l _ hl hs
        split at h
        · rename_i hz
          cases h
          exact ⟨l, vs, w, rfl, rfl, q, by rw [← DVs.length r]; exact hz, g.set R hl (fz_lst hs) (fun E => ⟨vs ++ [w], upd_same, DVs.append (DVs.mono E R _ _ r) ⟨w, [], rfl, DV.mono E R _ _ hw, rfl⟩⟩) rfl⟩
        · cases h
      · cases h
    · cases h
theorem ok_extend {ap cp : Pos} (hK : X.K = W.K) (ho : PE X a (rdE W C ca)) (hb : PE X b (rdE W C cb)) (hs : notStar b = true) (hc : isCall a = false) (hl : (ap.endLine == cp.line) = true) :
    PE X (.Call (.Attribute a "extend" ap) [b] [] cp) (rdE W C (.meth ca "extend" (.cons cb .nil))) := by
  have eq : ∀ x y S, metD x "extend" [y] S = mExtend x y S := fun x y S => rfl
  refine ok_lm1 hK PySem.F.slot_list_extend PySem.F.type_list_extend mt_extend ho hb hs hc hl (fun x y S r h => ?_) fun ι S H x y v w d S' Q R hv hw h g => ?_
  · rw [eq] at h
    unfold mExtend at h
    split at h
    · exact ⟨_, rfl⟩
    · cases h
  · rw [eq] at h
    unfold mExtend at h
    split at h
    · rename_i n k
      obtain ⟨l, rfl, hl⟩ := hv
      obtain ⟨l2, rfl, hl2⟩ := hw
      split at h
      · rename_i xs ys hs hs2
        obtain ⟨vs, q, r⟩ := R.ob n l _ hl hs
        obtain ⟨vs2, q2, r2⟩ := R.ob k l2 _ hl2 hs2
        split at h
        · rename_i hz
          cases h
          exact ⟨l, l2, vs, vs2, rfl, rfl, q, q2, by rw [← DVs.length r, ← DVs.length r2]; exact hz, g.set R hl (fz_lst hs) (fun E => ⟨vs ++ vs2, upd_same, DVs.append (DVs.mono E R _ _ r) (DVs.mono E R _ _ r2)⟩) rfl⟩
        · cases h
      · cases h
    · cases h
theorem ok_popAt {ap cp : Pos} (hK : X.K = W.K) (ho : PE X a (rdE W C ca)) (hb : PE X b (rdE W C cb)) (hs : notStar b = true) (hc : isCall a = false) (hl : (ap.endLine == cp.line) = true) :
    PE X (.Call (.Attribute a "pop" ap) [b] [] cp) (rdE W C (.meth ca "pop" (.cons cb .nil))) := by
  have eq : ∀ x y S, metD x "pop" [y] S = mPopAt x y S := fun x y S => rfl
  refine ok_lm1 hK PySem.F.slot_list_pop PySem.F.type_list_pop mt_popAt ho hb hs hc hl (fun x y S r h => ?_) fun ι S H x y v w d S' Q R hv hw h g => ?_
  · rw [eq] at h
    unfold mPopAt at h
    split at h
    · exact ⟨_, rfl⟩
    · cases h
  · rw [eq] at h
    unfold mPopAt at h
    split at h
    · rename_i n i
      obtain ⟨l, rfl, hl⟩ := hv
      cases (show w = .int _ from hw)
      split at h
      · rename_i xs hs
        obtain ⟨vs, q, r⟩ := R.ob n l _ hl hs
        split at h
        · rename_i hz
          split at h
          · rename_i k hk
            split at h
            · rename_i y hy
              cases h
              obtain ⟨u, h1, h2⟩ := DVs.get r hy
              obtain ⟨h3, _⟩ := ixN_seq hk
              exact ⟨l, vs, i, k, u, rfl, rfl, q, by omega, by omega, by rw [← DVs.length r]; exact h3, h1, g.set R hl (fz_lst hs) (fun E => ⟨vs.eraseIdx k, upd_same, DVs.eraseIdx k (DVs.mono E R _ _ r)⟩) h2⟩
            · cases h
          · cases h
        · cases h
      · cases h
    · cases h
theorem ok_pop {ap cp : Pos} (hK : X.K = W.K) (ho : PE X a (rdE W C ca)) (hc : isCall a = false) (hl : (ap.endLine == cp.line) = true) :
    PE X (.Call (.Attribute a "pop" ap) [] [] cp) (rdE W C (.meth ca "pop" .nil)) :=
  (pe_bm0 PySem.F.plainAttrs_list PySem.F.slot_list_pop PySem.F.type_list_pop mt_pop ho (base_of hc) hl).w fun σ H Q ⟨ι, S, e, d, S', R, V, ev, g⟩ => by
    obtain ⟨x, S1, xs, S2, e1, hk1, e2, h⟩ := ev_met ev
    simp only [evEs] at e2
    cases e2
    have h' : mPop x S1 = some (d, S') := h
    unfold mPop at h'
    split at h'
    · rename_i n
      refine rdE_then R V e1 fun ι1 H1 v E1 R1 hv V1 => ⟨by rw [hK]; exact metK_ref hk1 R1 hv, ?_⟩
      obtain ⟨l, rfl, hl⟩ := hv
      split at h'
      · rename_i xs hs
        obtain ⟨vs, q, r⟩ := R1.ob n l _ hl hs
        split at h'
        · rename_i y hy
          cases h'
          obtain ⟨u, h1, h2⟩ := DVs.get r hy
          refine ⟨l, vs, u, rfl, rfl, q, by rw [← DVs.length r]; exact h1, (g.thru E1 R1).set R1 hl (fz_lst hs) (fun E => ⟨vs.dropLast, upd_same, ?_⟩) h2⟩
          have q1 : xs.dropLast = xs.take (xs.length - 1) := List.dropLast_eq_take
          have q2 : vs.dropLast = vs.take (xs.length - 1) := by rw [List.dropLast_eq_take, DVs.length r]
          have z := DVs.take (xs.length - 1) (DVs.mono E R1 _ _ r)
          rw [← q1, ← q2] at z
          exact z
        · cases h'
      · cases h'
    · cases h'
theorem ok_upper {ap cp : Pos} (ho : PE X a (rdE W C ca)) (hc : isCall a = false) (hl : (ap.endLine == cp.line) = true) :
    PE X (.Call (.Attribute a "upper" ap) [] [] cp) (rdE W C (.meth ca "upper" .nil)) :=
  (pe_upper ho (base_of hc) hl).w fun σ H Q ⟨ι, S, e, d, S', R, V, ev, g⟩ => by
    obtain ⟨x, S1, xs, S2, e1, hk1, e2, h⟩ := ev_met ev
    simp only [evEs] at e2
    cases e2
    have h' : mUpper x S1 = some (d, S') := h
    unfold mUpper at h'
    refine rdE_then R V e1 fun ι1 H1 v E1 R1 hv V1 => ?_
    split at h'
    · rename_i z
      split at h'
      · rename_i hz
        cases h'
        cases (show v = .str _ from hv)
        exact ⟨⟨z, rfl⟩, z, rfl, rfl, hz, (g.thru E1 R1).here R1 rfl⟩
      · cases h'
    · cases h'
theorem seqD_of (R : Rep W ι S H) {d : D} {xs : List D} {v : V} (h : seqD d S = some xs) (hv : DV W ι H d v) : ∃ a vs, v = .ref a ∧ (SqL W.K H a vs ∨ SqT W.K H a vs) ∧ DVs W ι H xs vs := by
  unfold seqD at h
  split at h
  · cases h
    obtain ⟨a, vs, e, q, r⟩ := hv
    exact ⟨a, vs, e, .inr q, r⟩
  · obtain ⟨a, vs, e, q, r⟩ := lstD_of R h hv
    exact ⟨a, vs, e, .inl q, r⟩
theorem ok_join {ap cp : Pos} (hK : X.K = W.K) (ho : PE X a (rdE W C ca)) (hb : PE X b (rdE W C cb)) (hs : notStar b = true) (hc : isCall a = false) (hl : (ap.endLine == cp.line) = true) :
    PE X (.Call (.Attribute a "join" ap) [b] [] cp) (rdE W C (.meth ca "join" (.cons cb .nil))) :=
  (pe_join ho hb (star_cons hs) (base_of hc) hl).w fun σ H Q ⟨ι, S, e, d, S', R, V, ev, g⟩ => by
    obtain ⟨x, S1, xs, S2, e1, hk1, e2, h⟩ := ev_met ev
    obtain ⟨y, rfl, e2'⟩ := ev_one e2
    have h' : mJoin x y S2 = some (d, S') := h
    unfold mJoin at h'
    refine rdE_then R V e1 fun ι1 H1 v E1 R1 hv V1 => ?_
    split at h'
    · rename_i z
      cases (show v = .str _ from hv)
      refine ⟨⟨z, rfl⟩, rdE_then R1 V1 e2' fun ι2 H2 w E2 R2 hw V2 => ?_⟩
      split at h'
      · rename_i ys hy
        obtain ⟨xs, q1, q2⟩ := Option.bind_eq_some_iff.mp hy
        split at h'
        · rename_i hz
          cases h'
          obtain ⟨p, vs, rfl, hq, hd⟩ := seqD_of R2 q1 hw
          have ev := strs_of q2 hd
          subst ev
          exact ⟨z, p, ys, rfl, rfl, by rw [hK]; exact hq, hz, ((g.thru E1 R1).thru E2 R2).here R2 rfl⟩
        · cases h'
      · cases h'
    · cases h'
theorem ok_index {ap cp : Pos} (hK : X.K = W.K) (hu : X.A.units + 64 < cLine) (ho : PE X a (rdE W C ca)) (hb : PE X b (rdE W C cb)) (hs : notStar b = true) (hc : isCall a = false) (hl : (ap.endLine == cp.line) = true) :
    PE X (.Call (.Attribute a "index" ap) [b] [] cp) (rdE W C (.meth ca "index" (.cons cb .nil))) := by
  have eq : ∀ x y S, metD x "index" [y] S = mIndex x y S := fun x y S => rfl
  have key : ∀ {x y : D} {S : Sto} {r : D × Sto}, mIndex x y S = some r → ∃ n xs p qs j, x = .ref n ∧ lstD x S = some xs ∧ rdQ S y = some p ∧ optMap (rdQ S) xs = some qs ∧ qs.findIdx? (fun q => q.eqv p) = some j ∧ r = (.int (j : Nat), S) := fun {x y S r} h => by
    unfold mIndex at h
    split at h
    · rename_i xs hx
      split at h
      · rename_i p qs hp hq
        split at h
        · rename_i j hj
          cases h
          split at hx
          · exact ⟨_, xs, p, qs, j, rfl, hx, hp, hq, hj, rfl⟩
          · cases hx
        · cases h
      · cases h
    · cases h
  refine ok_lm1 hK PySem.F.slot_list_index PySem.F.type_list_index (mt_index hK hu) ho hb hs hc hl (fun x y S r h => ?_) fun ι S H x y v w d S' Q R hv hw h g => ?_
  · rw [eq] at h
    obtain ⟨n, xs, p, qs, j, e, _⟩ := key h
    exact ⟨n, e⟩
  · rw [eq] at h
    obtain ⟨n, xs, p, qs, j, _, hx, hp, hq, hj, er⟩ := key h
    cases er
    obtain ⟨l, vs, rfl, h1, h2⟩ := lst_sq R hx hv
    exact ⟨ι, S, l, vs, xs, y, w, p, qs, j, rfl, rfl, R, h1, h2, hw, hp, hq, hj, g.here R rfl⟩
/-- a built-in method, whichever -/
theorem ok_met1 {ap cp : Pos} {m : Str} (hK : X.K = W.K) (hu : X.A.units + 64 < cLine) (ho : PE X a (rdE W C ca)) (hb : PE X b (rdE W C cb)) (hs : notStar b = true) (hc : isCall a = false) (hl : (ap.endLine == cp.line) = true) :
    PE X (.Call (.Attribute a m ap) [b] [] cp) (rdE W C (.meth ca m (.cons cb .nil))) := by
  by_cases h1 : m = "append"
  · subst h1; exact ok_append hK ho hb hs hc hl
  by_cases h2 : m = "extend"
  · subst h2; exact ok_extend hK ho hb hs hc hl
  by_cases h3 : m = "pop"
  · subst h3; exact ok_popAt hK ho hb hs hc hl
  by_cases h4 : m = "join"
  · subst h4; exact ok_join hK ho hb hs hc hl
  by_cases h5 : m = "index"
  · subst h5; exact ok_index hK hu ho hb hs hc hl
  refine PE.no fun σ H Q ⟨ι, S, e, d, S', R, V, ev, g⟩ => ?_
  obtain ⟨x, S1, xs, S2, e1, hk1, e2, h⟩ := ev_met ev
  obtain ⟨y, rfl, e2'⟩ := ev_one e2
  simp only [metD, if_neg h1, if_neg h2, if_neg h3, if_neg h4, if_neg h5] at h
  cases h
theorem ok_met0 {ap cp : Pos} {m : Str} (hK : X.K = W.K) (ho : PE X a (rdE W C ca)) (hc : isCall a = false) (hl : (ap.endLine == cp.line) = true) :
    PE X (.Call (.Attribute a m ap) [] [] cp) (rdE W C (.meth ca m .nil)) := by
  by_cases h1 : m = "pop"
  · subst h1; exact ok_pop hK ho hc hl
  by_cases h2 : m = "upper"
  · subst h2; exact ok_upper ho hc hl
  refine PE.no fun σ H Q ⟨ι, S, e, d, S', R, V, ev, g⟩ => ?_
  obtain ⟨x, S1, xs, S2, e1, hk1, e2, h⟩ := ev_met ev
  simp only [evEs] at e2
  cases e2
  simp only [metD, if_neg h1, if_neg h2] at h
  cases h
end
end PC
end
section
set_option Elab.async false
set_option linter.all false
set_option maxRecDepth 100000
set_option maxHeartbeats 1000000
/-! PC: list(..), dicts, calls of own defs. -/
namespace PC
open PySem L2
section
variable {W : Wd} {C : Cal} {ι ι' ι1 ι2 : List Addr} {S S' S0 S1 S2 : Sto} {H H' H1 H2 : Hp} {e e' : En} {σ σ' : L2.St} {X : Cx} {a b c : Expr} {ca cb cc : CE} {pos p : Pos} {es : List Expr} {cs : CEs}
/-! ### what stays where an object changes that is no store's -/
/-- tuples, locked things -/
def TF : HO → Prop
  | .tup _ => True
  | .frz _ (.dK _) => False
  | .frz _ _ => True
  | _ => False
mutual
theorem DV.gen (hi : ∀ (n : Nat) a, ι[n]? = some a → ι'[n]? = some a) (hk : ∀ a o, H a = some o → TF o → H' a = some o) : ∀ (d : D) (v : V), DV W ι H d v → DV W ι' H' d v
  | .non, _, h => h
  | .bl _, _, h => h
  | .int _, _, h => h
  | .str _, _, h => h
  | .fn _, _, h => h
  | .lam _ _, _, h => h
  | .exn _, _, ⟨hc, a, oe, e, h1⟩ => ⟨hc, a, oe, e, hk a _ h1 trivial⟩
  | .exc _ _ x, _, ⟨hc, a, d, vx, oe, od, e, h1, h2, q⟩ => ⟨hc, a, d, vx, oe, od, e, hk a _ h1 trivial, hk d _ h2 trivial, DV.gen hi hk x vx q⟩
  | .ref _, _, ⟨a, e, h⟩ => ⟨a, e, hi _ _ h⟩
  | .tup xs, _, ⟨a, vs, e, h, q⟩ => ⟨a, vs, e, by
      rcases h with (h | ⟨o, h⟩) | h
      · exact .inl (.inl (hk a _ h trivial))
      · exact .inl (.inr ⟨o, hk a _ h trivial⟩)
      · exact .inr h, DVs.gen hi hk xs vs q⟩
  | .frl xs, _, ⟨a, vs, e, h, q⟩ => ⟨a, vs, e, by
      rcases h with ⟨o, h⟩ | h
      · exact .inl ⟨o, hk a _ h trivial⟩
      · exact .inr h, DVs.gen hi hk xs vs q⟩
theorem DVs.gen (hi : ∀ (n : Nat) a, ι[n]? = some a → ι'[n]? = some a) (hk : ∀ a o, H a = some o → TF o → H' a = some o) : ∀ (ds : List D) (vs : List V), DVs W ι H ds vs → DVs W ι' H' ds vs
  | [], _, h => h
  | d :: ds, _, ⟨v, r, e, h, q⟩ => ⟨v, r, e, DV.gen hi hk d v h, DVs.gen hi hk ds r q⟩
end
theorem KVr.gen (hi : ∀ (n : Nat) a, ι[n]? = some a → ι'[n]? = some a) (hk : ∀ a o, H a = some o → TF o → H' a = some o) {κ : Type} {a : List (κ × D)} {b : List (κ × V)} (h : KVr W ι H a b) : KVr W ι' H' a b :=
  Paired.imp (fun p q z => ⟨z.1, DV.gen hi hk _ _ z.2⟩) h
theorem DTr.gen (hi : ∀ (n : Nat) a, ι[n]? = some a → ι'[n]? = some a) (hk : ∀ a o, H a = some o → TF o → H' a = some o) {a : List (List Ky × D)} {b : List (List Key × Addr × Value)} (h : DTr W ι H a b) : DTr W ι' H' a b :=
  Paired.imp (fun p q z => ⟨z.1, by
      rcases z.2.1 with (h | ⟨o, h⟩) | h
      · exact .inl (.inl (hk _ _ h trivial))
      · exact .inl (.inr ⟨o, hk _ _ h trivial⟩)
      · exact .inr h, let ⟨v, r, d⟩ := z.2.2; ⟨v, r, DV.gen hi hk _ _ d⟩⟩) h
theorem OV.gen (hi : ∀ (n : Nat) a, ι[n]? = some a → ι'[n]? = some a) (hk : ∀ a o, H a = some o → TF o → H' a = some o) {a : Addr} {o : Ob} (h : OV W ι H a o) (e : H' a = H a) : OV W ι' H' a o := by
  cases o with
  | lst ds => obtain ⟨vs, q, r⟩ := h; exact ⟨vs, e.trans q, DVs.gen hi hk _ _ r⟩
  | fro ds => obtain ⟨vs, q, r⟩ := h; exact ⟨vs, e.trans q, DVs.gen hi hk _ _ r⟩
  | dk kvs => obtain ⟨vs, q, r⟩ := h; exact ⟨vs, e.trans q, KVr.gen hi hk r⟩
  | frk kvs => obtain ⟨o, vs, q, r⟩ := h; exact ⟨o, vs, e.trans q, KVr.gen hi hk r⟩
  | dt kvs => obtain ⟨P, xs, q, r, z⟩ := h; exact ⟨P, xs, e.trans q, DTr.gen hi hk r, z⟩
  | ins c fs => obtain ⟨hc, dx, gs, q, r⟩ := h; exact ⟨hc, dx, gs, e.trans q, KVr.gen hi hk r⟩
theorem own_keep {p : Addr} {u u' : HO} (hp : H p = some u) (ho : Own u) : ∀ a o, H a = some o → TF o → upd H p u' a = some o := fun a o h no => by
  rw [upd_ne]
  · exact h
  · rintro rfl
    rw [hp] at h
    cases h
    cases u <;> first
      | exact no
      | exact ho
      | (rename_i ob u0; cases u0 <;> first | exact no | exact ho)
theorem own_tab {p : Addr} {u u' : HO} {T : List (Addr × Str)} (hp : H p = some u) (ho : Own u) (h : LamX.Tabs T H) : LamX.Tabs T (upd H p u') := Tabs.own h fun b o hb no => by
  rw [upd_ne]
  · exact hb
  · rintro rfl
    rw [hp] at hb
    cases hb
    exact no ho
/-- an own object beside the store changes -/
theorem Rep.beside (R : Rep W ι S H) {p : Addr} {u u' : HO} (hn : p ∉ ι) (hp : H p = some u) (ho : Own u) : Rep W ι S (upd H p u') := by
  refine ⟨R.len, R.nd, fun n a o h1 h2 => OV.gen (fun _ _ h => h) (own_keep hp ho) (R.ob n a o h1 h2) (upd_ne ?_), own_tab hp ho R.tab⟩
  rintro rfl
  exact hn (List.mem_iff_getElem?.mpr ⟨n, h1⟩)
/-- since H, where p was not, an own object beside the store may change -/
theorem Ext.beside (E : Ext ι S H ι1 S1 H1) {p : Addr} {u' : HO} (hp : H p = none) : Ext ι S H ι1 S1 (upd H1 p u') :=
  ⟨E.pre, fun a o h nt k => by rw [upd_ne (ne_of_none h hp)]; exact E.keep a o h nt k, E.fr⟩
/-- it becomes the store's -/
theorem adopt (E : Ext ι S H ι1 S1 H1) (R1 : Rep W ι1 S1 H1) {p : Addr} {u u' : HO} {o : Ob} (hp : H p = none) (hn : p ∉ ι1) (hq : H1 p = some u) (ho : Own u) (hv : OV W (ι1 ++ [p]) (upd H1 p u') p o) :
    Rep W (ι1 ++ [p]) (S1 ++ [o]) (upd H1 p u') ∧ Ext ι S H (ι1 ++ [p]) (S1 ++ [o]) (upd H1 p u') := by
  have hi : ∀ (n : Nat) a, ι1[n]? = some a → (ι1 ++ [p])[n]? = some a := fun n a h => by
    rw [List.getElem?_append_left (List.getElem?_eq_some_iff.mp h).1]
    exact h
  refine ⟨⟨by simp [R1.len], ?_, fun n a o' h1 h2 => ?_, own_tab hq ho R1.tab⟩, ?_⟩
  · rw [List.nodup_append]
    refine ⟨R1.nd, by simp, fun a ha b hb => ?_⟩
    have e : b = p := by simpa using hb
    rw [e]
    rintro rfl
    exact hn ha
  · by_cases hl : n < ι1.length
    · rw [List.getElem?_append_left hl] at h1
      rw [List.getElem?_append_left (by rw [← R1.len]; exact hl)] at h2
      refine OV.gen hi (own_keep hq ho) (R1.ob n a o' h1 h2) (upd_ne ?_)
      rintro rfl
      exact hn (List.mem_iff_getElem?.mpr ⟨n, h1⟩)
    · have e : n = ι1.length := by
        have := (List.getElem?_eq_some_iff.mp h1).1
        simp at this
        omega
      subst e
      rw [List.getElem?_append_right (Nat.le_refl _)] at h1
      rw [R1.len, List.getElem?_append_right (Nat.le_refl _)] at h2
      simp at h1 h2
      subst h1 h2
      exact hv
  · obtain ⟨new, e, hnew⟩ := E.pre
    refine ⟨⟨new ++ [p], by rw [e, List.append_assoc], fun a ha o ho => ?_⟩, fun a o' h nt k => ?_, fun n h => ?_⟩
    · rcases List.mem_append.mp ha with ha | ha
      · exact hnew a ha o ho
      · have z : a = p := by simpa using ha
        rw [z, hp] at ho
        cases ho
    · rw [upd_ne (ne_of_none h hp)]
      exact E.keep a o' h nt k
    · have h1 := E.fr n h
      by_cases hl : n < S1.length
      · rw [List.getElem?_append_left hl]
        exact h1
      · rw [List.getElem?_eq_none (by omega)] at h1
        rw [← h1] at h
        exact h.elim
theorem not_in (E : Ext ι S H ι1 S1 H1) {p : Addr} {u : HO} (hp : H p = some u) (hn : p ∉ ι) (nt : ∀ ps, u ≠ .tbl ps := by intro _ z; cases z) : p ∉ ι1 := fun h => hn (E.back hp nt h)

/-! ### list(..) -/
theorem call_listS (hc : X.calm = true) : CallR X (.type "list") (fun xs H Q => ∃ z, xs = [V.str z] ∧ z.length ≤ sizeLine ∧ ∀ l, H l = none → Q (.ref l) (upd H l (.lst (z.cps.toList.map fun c => .str ⟨#[c]⟩)))) := by
  intro pins s σ H xs us Q I r q
  obtain ⟨z, rfl, hz, q⟩ := q
  obtain ⟨u, rfl, rx⟩ := vals1 r
  obtain ⟨t, rfl⟩ := rx
  refine PySem.call_list_str (I.ok.hd hc) z t (fun h' tk acc c' hk hD hacc => ?_) hz
  have hv : Vals (z.cps.toList.map fun c => V.str ⟨#[c]⟩) acc.toList := by
    refine L2.vals_of_at (by simp [hacc.1]) fun j x u hx hu => ?_
    rw [List.getElem?_map] at hx
    obtain ⟨c, hc, rfl⟩ := Option.map_eq_some_iff.mp hx
    obtain ⟨c', t', h1, rfl⟩ := hacc.2 j u (by rw [← Array.getElem?_toList]; exact hu)
    rw [← Array.getElem?_toList, hc] at h1
    cases h1
    exact ⟨t', rfl⟩
  exact ⟨.ref s.heap.objs.size, upd H s.heap.objs.size (.lst (z.cps.toList.map fun c => .str ⟨#[c]⟩)), I.laid (t' := tk) hk (Nat.le_refl _)
    (show ObjOk X.prog X.w _ _ _ (.lst (z.cps.toList.map fun c => .str ⟨#[c]⟩)) from ⟨by rw [List.length_map, Array.length_toList]; exact hz, acc.toList, c', hv, by rw [Array.toArray_toList]; exact hD⟩), rfl, q _ (I.hok.fresh (Nat.le_refl _))⟩
theorem dvs_signs : ∀ cs : List Nat, DVs W ι H (cs.map fun c => .str ⟨#[c]⟩) (cs.map fun c => .str ⟨#[c]⟩)
  | [] => rfl
  | c :: cs => ⟨_, _, rfl, rfl, dvs_signs cs⟩
theorem dvs_range (i : Int) : ∀ ks : List Nat, DVs W ι H (ks.map fun (k : Nat) => .int (i + k)) (ks.map fun (k : Nat) => .int (i + k))
  | [] => rfl
  | k :: ks => ⟨_, _, rfl, rfl, dvs_range i ks⟩
theorem boot_list : bootBuiltins "list" = some (.type "list") := rfl
theorem ok_colV (hc : X.calm = true) (hK : X.K = W.K) (hg : Gl X "list") (hm : X.mg "list" = none) (ha : PE X a (rdE W C ca)) (hs : notStar a = true) : PE X (.Call (.Name "list" p) [a] [] pos) (rdE W C (.col .val (.cons ca .nil))) :=
  (pe_callTy (t := rdA W C (.cons ca .nil)) (call_list_of.or (call_listS hc)) hg hm boot_list (ok_cons ha ok_nil hs) (by decide) (by decide) (star_cons hs) (back_any rfl)).w fun σ H Q ⟨ι, S, e, d, S', R, Ve, ev, g⟩ => by
    simp only [evE] at ev
    obtain ⟨xs, S1, e1, ev⟩ := bnd_some ev
    obtain ⟨x, rfl, e1'⟩ := ev_one e1
    refine rdA_then R Ve e1 fun ι1 H1 vs E1 R1 hv V1 => ?_
    obtain ⟨v, rfl, hx⟩ := one_of hv
    split at ev
    · rename_i ys st hi
      split at ev
      · rename_i hz
        cases ev
        replace hi : itV x S1 = some (ys, st) := hi
        unfold itV at hi
        have lists : ∀ (a : Addr) (vs : List V), v = .ref a → (SqL W.K H1 a vs ∨ SqT W.K H1 a vs) → DVs W ι1 H1 ys vs →
            (∃ p ws, [v] = [V.ref p] ∧ (SqL X.K H1 p ws ∨ SqT X.K H1 p ws) ∧ ∀ l, H1 l = none → Q (.ref l) (upd H1 l (.lst ws))) := fun a vs e hq hd => ⟨a, vs, by rw [e], by rw [hK]; exact hq, fun l hl => (g.thru E1 R1).lst R1 hd hl⟩
        split at hi
        · cases hi
          obtain ⟨a, vs, e, q, r⟩ := hx
          exact .inl (lists a vs e (.inr q) r)
        · cases hi
          obtain ⟨a, vs, e, q, r⟩ := lstD_of (d := .frl ys) R1 rfl hx
          exact .inl (lists a vs e (.inl q) r)
        · cases hi
          cases (show v = .str _ from hx)
          refine .inr ⟨_, rfl, ?_, fun l hl => (g.thru E1 R1).lst R1 (dvs_signs _) hl⟩
          rw [List.length_map, Array.length_toList] at hz
          exact hz
        · split at hi
          · rename_i zs hs
            cases hi
            obtain ⟨a, vs, e, q, r⟩ := lstD_of (d := .ref _) (xs := ys) R1 (by unfold lstD; simp only; rw [hs]) hx
            exact .inl (lists a vs e (.inl q) r)
          · rename_i zs hs
            cases hi
            obtain ⟨a, vs, e, q, r⟩ := lstD_of (d := .ref _) (xs := ys) R1 (by unfold lstD; simp only; rw [hs]) hx
            exact .inl (lists a vs e (.inl q) r)
          · cases hi
        · cases hi
      · cases ev
    · cases ev
theorem rg_eq1 {a : D} {ys : List D} {st : List Nat} (h : itR1 a = some (ys, st)) : ∃ j, a = .int j ∧ (-(2 ^ 62) ≤ j ∧ j < 2 ^ 62) ∧ ys = ((List.range j.toNat).map fun (k : Nat) => .int (0 + k)) ∧ st = [] := by
  unfold itR1 at h
  split at h
  · split at h
    · cases h
      exact ⟨_, rfl, by assumption, rfl, rfl⟩
    · cases h
  · cases h
theorem rg_eq2 {a b : D} {ys : List D} {st : List Nat} (h : itR2 a b = some (ys, st)) : ∃ i j, a = .int i ∧ b = .int j ∧ (-(2 ^ 62) ≤ i ∧ i < 2 ^ 62 ∧ -(2 ^ 62) ≤ j ∧ j < 2 ^ 62) ∧ ys = ((List.range (j - i).toNat).map fun (k : Nat) => .int (i + k)) ∧ st = [] := by
  unfold itR2 at h
  split at h
  · split at h
    · cases h
      exact ⟨_, _, rfl, rfl, by assumption, rfl, rfl⟩
    · cases h
  · cases h
theorem ev_two {c c2 : CE} {xs : List D} (h : evEs C (.cons c (.cons c2 .nil)) e S = some (xs, S')) : ∃ x y S1, xs = [x, y] ∧ evE C c e S = some (x, S1) ∧ evE C c2 e S1 = some (y, S') := by
  simp only [evEs] at h
  obtain ⟨x, S1, e1, h⟩ := bnd_some h
  obtain ⟨z, S2, e2, h⟩ := bnd_some h
  obtain ⟨y, S3, e3, h2⟩ := bnd_some e2
  simp only [bnd] at h2
  cases h2
  cases h
  exact ⟨x, y, S1, rfl, e1, e3⟩
theorem ok_colR1 {pr q : Pos} (hc : X.calm = true) (hg : Gl X "list") (hm : X.mg "list" = none) (hgr : Gl X "range") (hmr : X.mg "range" = none) (ha : PE X a (rdE W C ca)) (hs : notStar a = true) :
    PE X (.Call (.Name "list" p) [.Call (.Name "range" pr) [a] [] q] [] pos) (rdE W C (.col .range (.cons ca .nil))) :=
  (pe_listRg hc hg hm (prg_1 hgr hmr ha (star_cons hs)) (star_cons rfl)).w fun σ H Q ⟨ι, S, e, d, S', R, Ve, ev, g⟩ => by
    simp only [evE] at ev
    obtain ⟨xs, S1, e1, ev⟩ := bnd_some ev
    obtain ⟨x, rfl, e1'⟩ := ev_one e1
    split at ev
    · rename_i ys st hi
      split at ev
      · rename_i hz
        cases ev
        obtain ⟨j, rfl, h1, rfl, rfl⟩ := rg_eq1 hi
        refine rdE_then R Ve e1' fun ι1 H1 v E1 R1 hv V1 => ⟨j, hv, ⟨by decide, by decide, h1.1, h1.2, by rw [Int.sub_zero]; simp only [List.length_map, List.length_range] at hz; exact Nat.le_trans hz (by decide)⟩, fun l hl => ?_⟩
        have e0 : rgV 0 j = (List.range j.toNat).map fun (k : Nat) => V.int (0 + k) := by unfold rgV; rw [Int.sub_zero]
        rw [e0]
        exact (g.thru E1 R1).lst R1 (dvs_range 0 _) hl
      · cases ev
    · cases ev
theorem ok_colR2 {pr q : Pos} (hc : X.calm = true) (hg : Gl X "list") (hm : X.mg "list" = none) (hgr : Gl X "range") (hmr : X.mg "range" = none) (ha : PE X a (rdE W C ca)) (hb : PE X b (rdE W C cb)) (hs : notStar a = true) (hs2 : notStar b = true) :
    PE X (.Call (.Name "list" p) [.Call (.Name "range" pr) [a, b] [] q] [] pos) (rdE W C (.col .range (.cons ca (.cons cb .nil)))) :=
  (pe_listRg hc hg hm (prg_2 hgr hmr ha hb (star_cons hs) (star_cons hs2) (back_any (by rw [List.all_cons, hs2]; rfl))) (star_cons rfl)).w fun σ H Q ⟨ι, S, e, d, S', R, Ve, ev, g⟩ => by
    simp only [evE] at ev
    obtain ⟨xs, S1, e1, ev⟩ := bnd_some ev
    obtain ⟨x, y, S2, rfl, e2, e3⟩ := ev_two e1
    split at ev
    · rename_i ys st hi
      split at ev
      · rename_i hz
        cases ev
        obtain ⟨i, j, rfl, rfl, h1, rfl, rfl⟩ := rg_eq2 hi
        exact rdE_then R Ve e2 fun ι1 H1 v E1 R1 hv V1 => rdE_then R1 V1 e3 fun ι2 H2 w E2 R2 hw V2 => ⟨i, j, hv, hw, ⟨h1.1, h1.2.1, h1.2.2.1, h1.2.2.2, by simp only [List.length_map, List.length_range] at hz; exact Nat.le_trans hz (by decide)⟩, fun l hl => ((g.thru E1 R1).thru E2 R2).lst R2 (dvs_range i _) hl⟩
      · cases ev
    · cases ev

/-! ### dicts -/
theorem ok_dic0 : PE X (.Dict [] [] pos) (rdE W C (.dicE .nil .nil)) := pe_dnewK.w fun σ H Q ⟨ι, S, e, d, S', R, Ve, ev, g⟩ => by
  simp only [evE, evEs, bnd, optMap] at ev
  simp only [List.length_nil, Nat.zero_le, and_self, if_true, List.zip_nil_left, List.foldl_nil] at ev
  cases ev
  exact fun p hp => g.dk R .nil hp
/-- the keys that are written, with their values' readings -/
def trsOf (W : Wd) (C : Cal) : List Ky → CEs → List (TE × TE)
  | k :: ks, .cons v vs => (tC (kV k), rdE W C v) :: trsOf W C ks vs
  | _, _ => []
def kyE : Ky → CE
  | .inl i => .int i
  | .inr x => .str x
theorem keys_of : ∀ {ks : List (Option Expr)} {ks' : List CE}, oMap cKey ks = some ks' → ∃ ys : List Ky, ks' = ys.map kyE ∧ ks.all (·.isSome) = true ∧ Paired (fun k (y : Ky) => ∃ ex, k = some ex ∧ ∀ X : Cx, PE X ex (tC (kV y))) ks ys
  | [], _, h => by cases h; exact ⟨[], rfl, rfl, .nil⟩
  | k :: ks, _, h => by
    simp only [oMap] at h
    split at h
    · rename_i y ys hy hys
      cases h
      obtain ⟨zs, rfl, h2, h3⟩ := keys_of hys
      unfold cKey at hy
      split at hy
      · cases hy
        exact ⟨.inr _ :: zs, rfl, by rw [List.all_cons, h2]; rfl, .cons ⟨_, rfl, fun X => pe_str⟩ h3⟩
      · cases hy
        exact ⟨.inl _ :: zs, rfl, by rw [List.all_cons, h2]; rfl, .cons ⟨_, rfl, fun X => pe_int⟩ h3⟩
      · cases hy
    · cases h
theorem pairs_read : ∀ {ks : List Ky} {vs : CEs} {ι : List Addr} {S : Sto} {H : Hp} {ds : List D} {Q : List (V × V) → Hp → Prop}, Rep W ι S H → EnV W ι H e σ → evEs C vs e S = some (ds, S1) → ks.length = ds.length →
    (∀ ι1 H1 ws, Ext ι S H ι1 S1 H1 → Rep W ι1 S1 H1 → DVs W ι1 H1 ds ws → Q ((ks.zip ws).map fun kv => (kV kv.1, kv.2)) H1) → tPairs (trsOf W C ks vs) σ H Q
  | [], .nil, _, _, _, _, Q, R, Ve, ev, hl, k => by
    simp only [evEs] at ev
    cases ev
    exact k _ _ [] .refl R rfl
  | [], .cons v vs, _, _, _, _, Q, R, Ve, ev, hl, k => by
    simp only [evEs] at ev
    obtain ⟨x, S2, e1, ev⟩ := bnd_some ev
    obtain ⟨xs, S3, e2, ev⟩ := bnd_some ev
    cases ev
    cases hl
  | y :: ys, .nil, _, _, _, _, Q, R, Ve, ev, hl, k => by
    simp only [evEs] at ev
    cases ev
    cases hl
  | y :: ys, .cons v vs, _, _, _, _, Q, R, Ve, ev, hl, k => by
    simp only [evEs] at ev
    obtain ⟨x, S2, e1, ev⟩ := bnd_some ev
    obtain ⟨xs, S3, e2, ev⟩ := bnd_some ev
    cases ev
    show rdE W C v σ _ _
    refine rdE_then R Ve e1 fun ι1 H1 u E1 R1 hu V1 => pairs_read R1 V1 e2 (by simpa using hl) fun ι2 H2 ws E2 R2 hw => ?_
    exact k ι2 H2 (u :: ws) (E1.trans R1 E2) R2 ⟨u, ws, rfl, DV.mono E2 R1 _ _ hu, hw⟩
theorem ev_keys : ∀ {ys : List Ky} {S : Sto}, evEs C (esOf (ys.map kyE)) e S = some (ys.map kyD, S)
  | [], _ => by simp only [List.map_nil, esOf, evEs]
  | y :: ys, S => by
    simp only [List.map_cons, esOf, evEs]
    cases y <;> simp only [kyE, evE, bnd, ev_keys (ys := ys), kyD]
theorem keyOf_kyD : ∀ ys : List Ky, optMap keyOf (ys.map kyD) = some ys
  | [] => rfl
  | y :: ys => by
    simp only [List.map_cons, optMap, keyOf_kyD ys]
    cases y <;> rfl
theorem zip_kv : ∀ {ks : List Ky} {ds : List D} {ws : List V}, DVs W ι H ds ws → KVr W ι H (ks.zip ds) (ks.zip ws)
  | [], _, _, _ => by simp only [List.zip_nil_left]; exact .nil
  | k :: ks, [], _, h => by rw [show _ = [] from h]; exact .nil
  | k :: ks, d :: ds, _, ⟨v, r, e, h, q⟩ => by
    rw [e]
    exact .cons ⟨rfl, h⟩ (zip_kv q)
theorem ok_dic {ks : List (Option Expr)} {vs : List Expr} {ys : List Ky} (hk : Paired (fun k (y : Ky) => ∃ ex, k = some ex ∧ ∀ X : Cx, PE X ex (tC (kV y))) ks ys) (hall : ks.all (·.isSome) = true) (hl : ks.length = vs.length) (h15 : ks.length ≤ 15)
    (hv : ∀ (trs : List (TE × TE)), trs = trsOf W C ys cs → PPs X pos ks vs trs) : PE X (.Dict ks vs pos) (rdE W C (.dicE (esOf (ys.map kyE)) cs)) := by
  by_cases h0 : ks = []
  · subst h0
    cases hk
    have e0 : vs = [] := List.eq_nil_of_length_eq_zero hl.symm
    subst e0
    refine (pe_dnewK (X := X) (pos := pos)).w fun σ H Q ⟨ι, S, e, d, S', R, Ve, ev, g⟩ => ?_
    simp only [evE] at ev
    obtain ⟨xs, S1, e1, ev⟩ := bnd_some ev
    rw [ev_keys] at e1
    cases e1
    obtain ⟨ds, S2, e2, ev⟩ := bnd_some ev
    rw [keyOf_kyD] at ev
    simp only at ev
    split at ev
    · rename_i hz
      have hd : ds = [] := List.eq_nil_of_length_eq_zero hz.1.symm
      subst hd
      cases ev
      cases cs with
      | nil =>
        simp only [evEs] at e2
        cases e2
        exact fun p hp => g.dk R .nil hp
      | cons z zs =>
        simp only [evEs] at e2
        obtain ⟨x, S3, e3, e2⟩ := bnd_some e2
        obtain ⟨xs, S4, e4, e2⟩ := bnd_some e2
        cases e2
    · cases ev
  · refine (pe_disp (hv _ rfl) hall hl h0 h15).w fun σ H Q ⟨ι, S, e, d, S', R, Ve, ev, g⟩ => ?_
    simp only [evE] at ev
    obtain ⟨xs, S1, e1, ev⟩ := bnd_some ev
    rw [ev_keys] at e1
    cases e1
    obtain ⟨ds, S2, e2, ev⟩ := bnd_some ev
    rw [keyOf_kyD] at ev
    simp only at ev
    split at ev
    · rename_i hz
      cases ev
      intro p hp
      obtain ⟨R0, E0⟩ := R.put hp (.dK [])
      have hn : p ∉ ι := R.fresh hp
      refine pairs_read R0 (Ve.mono E0 R) e2 (by simpa using hz.1) fun ι1 H1 ws E1 R1 hw => ?_
      have hp1 : H1 p = some (.dK []) := E1.keep p _ upd_same (fun ps z => nomatch z) fun z => absurd z hn
      have hn1 := not_in E1 upd_same hn
      refine ⟨hp1, ys.zip ws, rfl, ?_, ?_⟩
      · rw [List.length_zip]
        have := hz.2
        simp only [List.length_map] at this
        omega
      · have E := E0.trans R0 E1
        have hi : ∀ (n : Nat) a, ι1[n]? = some a → (ι1 ++ [p])[n]? = some a := fun n a h => by
          rw [List.getElem?_append_left (List.getElem?_eq_some_iff.mp h).1]
          exact h
        have ho : OV W (ι1 ++ [p]) (upd H1 p (.dK (mergeK [] (ys.zip ws)))) p (.dk ((ys.zip ds).foldl (fun m kv => putK kv.1 kv.2 m) [])) :=
          ⟨_, upd_same, KVr.gen hi (own_keep hp1 trivial) (merge_kv (zip_kv hw) .nil)⟩
        obtain ⟨R2, E2⟩ := adopt E R1 hp hn1 hp1 trivial ho
        refine g _ _ _ E2 R2 ⟨p, rfl, ?_⟩
        rw [← R1.len, List.getElem?_append_right (Nat.le_refl _)]
        simp
    · cases ev

/-! ### calls of own defs -/
theorem ok_call {f : Addr} {fd : FuncData} {ps : List Str} {k id : Nat} {x : Str} (F : FnG X.prog X.w X.K X.mg X.base k f fd ps (spF W C id)) (hr : Room k X.A) (hgd : X.A.guards = some []) (hg : Gl X x) (hm : X.mg x = some (.ref f)) (hk : PySem.W.keepIn X.K (.ref f) = true) (hb : Binds X.K fd ps [])
    (ha : PA X es (rdA W C cs)) (hs : es.all notStar = true) (h0 : es = [] → cs = .nil) (hdb : x ≠ "__debug__") : PE X (.Call (.Name x p) es [] pos) (rdE W C (.call id cs [])) := by
  have key : ∀ σ H Q, rdE W C (.call id cs []) σ H Q → rdA W C cs σ H fun vs H1 => spF W C id vs H1 Q := fun σ H Q ⟨ι, S, e, d, S', R, Ve, ev, g⟩ => by
    simp only [evE] at ev
    obtain ⟨xs, S1, e1, ev⟩ := bnd_some ev
    exact rdA_then R Ve e1 fun ι1 H1 vs E1 R1 hv V1 => ⟨ι1, S1, xs, d, S', R1, .of hv, ev, g.thru E1 R1⟩
  cases es with
  | nil =>
    have e0 := h0 rfl
    subst e0
    refine (pe_callG0 F hr hgd hg hm hk hb (beq_eq_false_iff_ne.mpr hdb)).w fun σ H Q ⟨ι, S, e, d, S', R, Ve, ev, g⟩ => ?_
    simp only [evE, evEs, bnd] at ev
    exact ⟨ι, S, [], d, S', R, rfl, ev, g⟩
  | cons e0 es => exact (pe_callG F hr hgd hg hm hk hb ha hs (beq_eq_false_iff_ne.mpr hdb)).w fun σ H Q h => key σ H Q h
end
end PC
end
section
set_option Elab.async false
set_option linter.all false
set_option maxRecDepth 100000
set_option maxHeartbeats 1000000
/-! PC: calls with names, what loops walk over, list comprehensions. -/
namespace PC
open PySem L2
section
variable {W : Wd} {C : Cal} {ι ι' ι1 ι2 : List Addr} {S S' S0 S1 S2 : Sto} {H H' H1 H2 : Hp} {e e' : En} {σ σ' : L2.St} {X : Cx} {a b c : Expr} {ca cb cc : CE} {pos p : Pos} {es : List Expr} {cs : CEs}
/-! ### calls with names -/
def litX : D → D
  | .bl b => .bl b
  | .int i => .int i
  | .str x => .str x
  | _ => .non
def litV : D → V
  | .bl b => .bl b
  | .int i => .int i
  | .str x => .str x
  | _ => .non
theorem lit_dv (d : D) : DV W ι H (litX d) (litV d) := by cases d <;> rfl
theorem lit_dvs : ∀ ds : List D, DVs W ι H (ds.map litX) (ds.map litV)
  | [] => rfl
  | d :: ds => ⟨_, _, rfl, lit_dv d, lit_dvs ds⟩
theorem ev_lit (d : D) : evE C (litD d) e S = some (litX d, S) := by cases d <;> simp only [litD, litX, evE]
theorem ev_lits : ∀ ds : List D, evEs C (esOf (ds.map litD)) e S = some (ds.map litX, S)
  | [] => by simp only [List.map_nil, esOf, evEs]
  | d :: ds => by simp only [List.map_cons, esOf, evEs, ev_lit, bnd, ev_lits ds]
theorem ev_ap : ∀ {a b : CEs} {S S' : Sto} {zs : List D}, evEs C (apEs a b) e S = some (zs, S') → ∃ xs ys S1, evEs C a e S = some (xs, S1) ∧ evEs C b e S1 = some (ys, S') ∧ zs = xs ++ ys
  | .nil, b, S, S', zs, h => ⟨[], zs, S, by simp only [evEs], h, rfl⟩
  | .cons a r, b, S, S', zs, h => by
    simp only [apEs, evEs] at h
    obtain ⟨x, S1, e1, h⟩ := bnd_some h
    obtain ⟨xs, S2, e2, h⟩ := bnd_some h
    cases h
    obtain ⟨ys, ws, S3, h1, h2, rfl⟩ := ev_ap e2
    exact ⟨x :: ys, ws, S3, by simp only [evEs, e1, h1, bnd], h2, rfl⟩
theorem pick_dvs : ∀ {ix : List Nat} {as : List D} {bs : List V} {zs : List D} {ws : List V}, DVs W ι H as bs → optMap (fun i => as[i]?) ix = some zs → optMap (fun i => bs[i]?) ix = some ws → DVs W ι H zs ws
  | [], _, _, _, _, _, h1, h2 => by
    cases h1
    cases h2
    rfl
  | i :: r, as, bs, _, _, h, h1, h2 => by
    obtain ⟨y, ys, rfl, q1, q2⟩ := optMap_cons h1
    obtain ⟨z, zs, rfl, q3, q4⟩ := optMap_cons h2
    obtain ⟨v, q5, q6⟩ := DVs.get h q1
    have q3' : bs[i]? = some z := q3
    rw [q5] at q3'
    cases q3'
    exact ⟨_, _, rfl, q6, pick_dvs h q2 q4⟩
theorem kw_facts {env : Env} {pos : Pos} : ∀ {ks : List Keyword} {ns : List Str}, oMap (·.arg) ks = some ns → (backToKw pos (keywordEach ks env)).all (·.1.isSome) = true ∧ (backToKw pos (keywordEach ks env)).filterMap (·.1) = ns ∧ (backToKw pos (keywordEach ks env)).any (·.1.isNone) = false
  | [], _, h => by cases h; exact ⟨rfl, rfl, rfl⟩
  | ⟨none, v, kp⟩ :: r, _, h => by
    simp only [oMap] at h
    cases h
  | ⟨some y, v, kp⟩ :: r, _, h => by
    simp only [oMap] at h
    split at h
    · rename_i y' ys hy hys
      cases hy
      cases h
      obtain ⟨h1, h2, h3⟩ := kw_facts (env := env) (pos := pos) hys
      have e : backToKw pos (keywordEach (⟨some y, v, kp⟩ :: r) env) = (some y, do let v ← eval v env; standAt pos; pure v) :: backToKw pos (keywordEach r env) := rfl
      rw [e]
      exact ⟨by rw [List.all_cons, h1]; rfl, by rw [List.filterMap_cons]; simp only; rw [h2], by rw [List.any_cons, h3]; rfl⟩
    · cases h
theorem ok_pk : ∀ {ks : List Keyword} {cs : CEs} {r : Expr → Option CE}, (∀ a ca, r a = some ca → PE X a (rdE W C ca)) → cEs r (ks.map (·.value)) = some cs → PK X ks (rdA W C cs)
  | [], _, r, hr, h => by
    cases h
    exact pk_nil.w fun σ H Q ⟨ι, S, e, ds, S', R, V, ev, g⟩ => by
      simp only [evEs] at ev
      cases ev
      exact g _ _ _ .refl R rfl
  | ⟨nm, v, kp⟩ :: ks, _, r, hr, h => by
    simp only [List.map_cons, cEs] at h
    split at h
    · split at h
      · rename_i x xs hx hxs
        cases h
        exact (pk_cons (hr _ _ hx) (ok_pk hr hxs)).w fun _ _ _ => rd_cons
      · cases h
    · cases h
theorem ok_callK {f : Addr} {fd : FuncData} {ps : List Str} {k id : Nat} {x : Str} {ks : List Keyword} {ck : CEs} {ns : List Str} {ix : List Nat} {dfl : List D} (F : FnG X.prog X.w X.K X.mg X.base k f fd ps (spF W C id)) (hr : Room k X.A) (hgd : X.A.guards = some []) (hg : Gl X x) (hm : X.mg x = some (.ref f)) (hk : PySem.W.keepIn X.K (.ref f) = true)
    (hb : KB X.K fd ps es.length ns ix (dfl.map litV)) (ha : PA X es (rdA W C cs)) (hs : es.all notStar = true) (h0 : es = [] → cs = .nil) (hl : cs.len = es.length) (hkw : PK X ks (rdA W C ck)) (hkl : ck.len = ns.length) (hns : oMap (·.arg) ks = some ns) (hix : ix ≠ []) (hdb : x ≠ "__debug__") :
    PE X (.Call (.Name x p) es ks pos) (rdE W C (.call id (apEs cs (apEs ck (esOf (dfl.map litD)))) ix)) := by
  have evl : ∀ {cs : CEs} {e : En} {S S' : Sto} {ds : List D}, evEs C cs e S = some (ds, S') → ds.length = cs.len := by
    intro cs
    induction cs using CEs.rec (motive_1 := fun _ => True) (motive_3 := fun _ => True) with
    | nil =>
      intro e S S' ds h
      simp only [evEs] at h
      cases h
      rfl
    | cons a r _ ih =>
      intro e S S' ds h
      simp only [evEs] at h
      obtain ⟨x, S1, e1, h⟩ := bnd_some h
      obtain ⟨xs, S2, e2, h⟩ := bnd_some h
      cases h
      rw [List.length_cons, ih e2]
      rfl
    | _ => trivial
  obtain ⟨k1, k2, k3⟩ := kw_facts (env := X.env) (pos := pos) hns
  have key : ∀ σ H Q, rdE W C (.call id (apEs cs (apEs ck (esOf (dfl.map litD)))) ix) σ H Q →
      rdA W C cs σ H fun vs H1 => rdA W C ck σ H1 fun zs H2 => vs.length = es.length ∧ zs.length = ns.length ∧ ∀ ys, optMap (fun i => (vs ++ zs ++ dfl.map litV)[i]?) ix = some ys → spF W C id ys H2 Q := fun σ H Q ⟨ι, S, e, d, S', R, Ve, ev, g⟩ => by
    simp only [evE] at ev
    obtain ⟨xs, S1, e1, ev⟩ := bnd_some ev
    obtain ⟨x1, x2, S2, e2, e3, rfl⟩ := ev_ap e1
    obtain ⟨y1, y2, S3, e4, e5, rfl⟩ := ev_ap e3
    rw [ev_lits] at e5
    cases e5
    refine rdA_then R Ve e2 fun ι1 H1 vs E1 R1 hv V1 => rdA_then R1 V1 e4 fun ι2 H2 zs E2 R2 hz V2 => ⟨by rw [← DVs.length hv, evl e2, hl], by rw [← DVs.length hz, evl e4, hkl], fun ys hy => ?_⟩
    split at ev
    · rename_i zs' hzs
      unfold callIx at hzs
      rw [if_neg hix, ← List.append_assoc] at hzs
      exact ⟨ι2, _, zs', d, S', R2, .of <| pick_dvs (DVs.append (DVs.append (DVs.mono E2 R1 _ _ hv) hz) (lit_dvs dfl)) hzs hy, ev, (g.thru E1 R1).thru E2 R2⟩
    · cases ev
  cases es with
  | nil =>
    have e0 := h0 rfl
    subst e0
    refine ⟨fun pins s σ H Q I h => ?_⟩
    refine wpAny_Call_Name_kw (ld_glob I hg hm ?_ (beq_eq_false_iff_ne.mpr hdb))
    have h1 : rdA W C ck σ H fun zs H2 => ([] : List V).length = 0 ∧ zs.length = ns.length ∧ ∀ ys, optMap (fun i => ([] ++ zs ++ dfl.map litV)[i]?) ix = some ys → spF W C id ys H2 Q := by
      obtain ⟨ι, S, e, ds, S', R, Ve, ev, g⟩ := key σ H Q h
      simp only [evEs] at ev
      cases ev
      exact g ι H [] .refl R rfl
    refine PySem.W.callWith_KW0 (h₀ := X.base) I.ok.mod.kin hk k1 (thn (hkw.run pos pins s σ H _ I h1) fun ws s2 ⟨zs, H2, I2, rz, l1, l2, q2⟩ => ⟨I2.kIn, ?_⟩) (by rw [k3]; rfl)
    rw [k2]
    exact run_fnK F hr hgd hb I2 .nil rz rfl l2 q2
  | cons e0 es =>
    refine ⟨fun pins s σ H Q I h => ?_⟩
    refine wpAny_Call_Name_kw (ld_glob I hg hm ?_ (beq_eq_false_iff_ne.mpr hdb))
    have hs' := hs
    rw [List.all_cons, Bool.and_eq_true] at hs'
    refine PySem.W.callWith_KW (h₀ := X.base) I.ok.mod.kin hk k1 (thn (ha.run pos pins s σ H _ I (key σ H Q h)) fun us s1 ⟨vs, H1, I1, r, q⟩ => ?_) (by rw [back_any hs, k3]; rfl) (star_cons hs'.1)
    refine thn (hkw.run pos pins s1 σ H1 _ I1 q) fun ws s2 ⟨zs, H2, I2, rz, l1, l2, q2⟩ => ⟨I2.kIn, ?_⟩
    rw [k2]
    exact run_fnK F hr hgd hb I2 r rz l1 l2 q2

/-! ### what loops walk over -/
def wiS (W : Wd) (C : Cal) (src : Src) (cs : CEs) : TI := fun σ H R => ∃ ι S e as S1 xs st, Rep W ι S H ∧ EnV W ι H e σ ∧ evEs C cs e S = some (as, S1) ∧ itD src as S1 = some (xs, st) ∧
  ∀ ι1 H1 J, Ext ι S H ι1 S1 H1 → Rep W ι1 S1 H1 → WkD W J xs ι1 (st.foldl froz S1) H1 → R J H1
variable {tg : Expr}
theorem ok_srcV (hK : X.K = W.K) (ha : PE X a (rdE W C ca)) : PI X tg a (wiS W C .val (.cons ca .nil)) := by
  refine ⟨fun pins s σ H R I h => ?_⟩
  obtain ⟨ι, S, e, as, S1, xs, st, Rp, Ve, ev, hi, k⟩ := h
  obtain ⟨x, rfl, e1⟩ := ev_one ev
  replace hi : itV x S1 = some (xs, st) := hi
  unfold itV at hi
  split at hi
  · cases hi
    refine (pi_tup ha).run pins s σ H R I (rdE_then Rp Ve e1 fun ι1 H1 v E1 R1 hv V1 => ?_)
    obtain ⟨a, vs, rfl, q, r⟩ := hv
    rw [hK]
    exact ⟨a, rfl, ⟨vs, q⟩, k ι1 H1 _ E1 R1 (wk_tup R1 q r)⟩
  · cases hi
    refine (pi_list ha).run pins s σ H R I (rdE_then Rp Ve e1 fun ι1 H1 v E1 R1 hv V1 => ?_)
    obtain ⟨a, vs, rfl, q, r⟩ := hv
    rw [hK]
    refine ⟨a, rfl, ⟨vs, ?_⟩, k ι1 H1 _ E1 R1 (wk_const R1 (fun ι2 S2 H2 E2 => ?_) r)⟩
    · rcases q with ⟨o, q⟩ | q
      · exact .inl (.inr ⟨o, q⟩)
      · exact .inr q
    · rcases q with ⟨o, q⟩ | q
      · exact .inl (.inr ⟨o, E2.keep _ _ q (fun ps z => nomatch z) fun z => by
          obtain ⟨u, e, q'⟩ := R1.mem z
          rw [q] at e
          cases e
          exact q'.elim⟩)
      · exact .inr q
  · cases hi
    refine (pi_str ha).run pins s σ H R I (rdE_then Rp Ve e1 fun ι1 H1 v E1 R1 hv V1 => ?_)
    exact ⟨_, hv, k ι1 H1 _ E1 R1 wk_str⟩
  · rename_i n
    have lists : (S1[n]? = some (.lst xs) ∨ S1[n]? = some (.fro xs)) → st = [n] → wpAny (model X.prog X.w) X.A (eval a X.env) (fun v s1 => wpAny (model X.prog X.w) X.A (pyIter v) (PIE X pins σ tg R) X.xe s1) X.xe s := fun hs hst => by
      subst hst
      refine (pi_list ha).run pins s σ H R I (rdE_then Rp Ve e1 fun ι1 H1 v E1 R1 hv V1 => ?_)
      obtain ⟨a, rfl, hn⟩ := hv
      have ho : OV W ι1 H1 a (.fro xs) := by
        rcases hs with hs | hs
        · have z : OV W ι1 H1 a (.lst xs) := R1.ob n a _ hn hs
          exact z
        · exact R1.ob n a _ hn hs
      obtain ⟨vs, q, r⟩ := ho
      rw [hK]
      exact ⟨a, rfl, ⟨vs, .of q⟩, k ι1 H1 _ E1 R1 (wk_list (R1.froz (st := [n])) hn (frozL_fro List.mem_cons_self hs) q r)⟩
    split at hi
    · cases hi
      exact lists (.inl (by assumption)) rfl
    · cases hi
      exact lists (.inr (by assumption)) rfl
    · cases hi
  · cases hi
theorem ok_srcR1 {pr : Pos} (hg : Gl X "range") (hm : X.mg "range" = none) (ha : PE X a (rdE W C ca)) (hs : notStar a = true) : PI X tg (.Call (.Name "range" pr) [a] [] pos) (wiS W C .range (.cons ca .nil)) := by
  refine ⟨fun pins s σ H R I h => ?_⟩
  obtain ⟨ι, S, e, as, S1, xs, st, Rp, Ve, ev, hi, k⟩ := h
  obtain ⟨x, rfl, e1⟩ := ev_one ev
  obtain ⟨j, rfl, h1, rfl, rfl⟩ := rg_eq1 hi
  refine (pi_range1 hg hm (ok_cons ha ok_nil hs) (star_cons hs)).run pins s σ H R I (rdA_then Rp Ve ev fun ι1 H1 vs E1 R1 hv V1 => ?_)
  obtain ⟨v, rfl, hx⟩ := one_of hv
  exact ⟨j, by rw [show v = .int j from hx], h1.1, h1.2, k ι1 H1 _ E1 R1 wk_range⟩
theorem ok_srcR2 {pr : Pos} (hg : Gl X "range") (hm : X.mg "range" = none) (ha : PE X a (rdE W C ca)) (hs : notStar a = true) (hb : PE X b (rdE W C cb)) (hs2 : notStar b = true) : PI X tg (.Call (.Name "range" pr) [a, b] [] pos) (wiS W C .range (.cons ca (.cons cb .nil))) := by
  refine ⟨fun pins s σ H R I h => ?_⟩
  obtain ⟨ι, S, e, as, S1, xs, st, Rp, Ve, ev, hi, k⟩ := h
  obtain ⟨x, y, S2, rfl, e2, e3⟩ := ev_two ev
  obtain ⟨i, j, rfl, rfl, h1, rfl, rfl⟩ := rg_eq2 hi
  refine (pi_range2 hg hm (ok_cons ha (ok_cons hb ok_nil hs2) hs) ((star_cons hs).trans (by rw [star_cons hs2]; rfl)) (star_cons hs2)).run pins s σ H R I (rdA_then Rp Ve ev fun ι1 H1 vs E1 R1 hv V1 => ?_)
  obtain ⟨v, w, rfl, hx, hw⟩ := two_of hv
  exact ⟨i, j, by rw [show v = .int i from hx, show w = .int j from hw], h1, k ι1 H1 _ E1 R1 wk_range⟩
theorem lstR_of (R : Rep W ι S H) {d : D} {n : Nat} {xs : List D} {v : V} (h : lstR d S = some (n, xs)) (hv : DV W ι H d v) : ∃ a vs, v = .ref a ∧ ι[n]? = some a ∧ (S[n]? = some (.lst xs) ∨ S[n]? = some (.fro xs)) ∧ H a = some (.lst vs) ∧ DVs W ι H xs vs := by
  unfold lstR at h
  split at h
  · obtain ⟨a, rfl, hn⟩ := hv
    split at h
    · rename_i ys hs
      cases h
      obtain ⟨vs, q, r⟩ := R.ob _ a _ hn hs
      exact ⟨a, vs, rfl, hn, .inl hs, q, r⟩
    · rename_i ys hs
      cases h
      obtain ⟨vs, q, r⟩ := R.ob _ a _ hn hs
      exact ⟨a, vs, rfl, hn, .inr hs, q, r⟩
    · cases h
  · cases h
theorem ok_srcE {pr tp : Pos} {ts : List Expr} {kk : Nat} (hK : X.K = W.K) (hg : Gl X "enumerate") (hm : X.mg "enumerate" = none) (ha : PE X a (rdE W C ca)) (hs : notStar a = true) : PI X (.Tuple ts kk tp) (.Call (.Name "enumerate" pr) [a] [] pos) (wiS W C .enum (.cons ca .nil)) := by
  refine ⟨fun pins s σ H R I h => ?_⟩
  obtain ⟨ι, S, e, as, S1, xs, st, Rp, Ve, ev, hi, k⟩ := h
  obtain ⟨x, rfl, e1⟩ := ev_one ev
  refine (pi_enumA hg hm (ok_cons ha ok_nil hs) (star_cons hs)).run pins s σ H R I (rdA_then Rp Ve ev fun ι1 H1 vs E1 R1 hv V1 => ?_)
  obtain ⟨v, rfl, hx⟩ := one_of hv
  by_cases ht : ∃ ys, x = .tup ys
  · obtain ⟨ys, rfl⟩ := ht
    cases (show some (ys.zipIdx.map fun (x, k) => D.tup [.int (k : Nat), x], ([] : List Nat)) = some (xs, st) from hi)
    obtain ⟨a, vs, rfl, q, r⟩ := hx
    rw [hK]
    exact ⟨a, vs, rfl, .inr ⟨q, k ι1 H1 _ E1 R1 (wk_enumT R1 q r)⟩⟩
  · have hi' : ((lstR x S1).map fun (p : Nat × List D) => (p.2.zipIdx.map fun (x, k) => D.tup [.int (k : Nat), x], [p.1])) = some (xs, st) := by
      cases x <;> first | exact hi | exact absurd ⟨_, rfl⟩ ht
    obtain ⟨⟨n, ys⟩, h1, h2⟩ := Option.map_eq_some_iff.mp hi'
    cases h2
    obtain ⟨a, vs, rfl, hn, hs, q, r⟩ := lstR_of R1 h1 hx
    rw [hK]
    exact ⟨a, vs, rfl, .inl ⟨.of q, k ι1 H1 _ E1 R1 (wk_enum (R1.froz (st := [n])) hn (frozL_fro List.mem_cons_self hs) q r)⟩⟩
theorem ok_srcZ {pr tp : Pos} {ts : List Expr} {kk : Nat} (hK : X.K = W.K) (hg : Gl X "zip") (hm : X.mg "zip" = none) (ha : PE X a (rdE W C ca)) (hs : notStar a = true) (hb : PE X b (rdE W C cb)) (hs2 : notStar b = true) : PI X (.Tuple ts kk tp) (.Call (.Name "zip" pr) [a, b] [] pos) (wiS W C .zip (.cons ca (.cons cb .nil))) := by
  refine ⟨fun pins s σ H R I h => ?_⟩
  obtain ⟨ι, S, e, as, S1, xs, st, Rp, Ve, ev, hi, k⟩ := h
  obtain ⟨x, y, S2, rfl, e2, e3⟩ := ev_two ev
  unfold itD at hi
  simp only at hi
  split at hi
  · rename_i n xs' m ys h1 h2
    cases hi
    refine (pi_zip hg hm (ok_cons ha (ok_cons hb ok_nil hs2) hs) (star_cons hs) (back_any (by rw [List.all_cons, hs2]; rfl))).run pins s σ H R I (rdA_then Rp Ve ev fun ι1 H1 vs E1 R1 hv V1 => ?_)
    obtain ⟨v, w, rfl, hx, hw⟩ := two_of hv
    obtain ⟨a, vs, rfl, hn, hs, q, r⟩ := lstR_of R1 h1 hx
    obtain ⟨a2, vs2, rfl, hn2, hs2, q2, r2⟩ := lstR_of R1 h2 hw
    rw [hK]
    exact ⟨a, a2, vs, vs2, rfl, .of q, .of q2, k ι1 H1 _ E1 R1 (wk_zip (R1.froz (st := [n, m])) hn (frozL_fro List.mem_cons_self hs) q r hn2 (frozL_fro (List.mem_cons_of_mem _ List.mem_cons_self) hs2) q2 r2)⟩
  · cases hi
end
end PC
end
section
set_option Elab.async false
set_option linter.all false
set_option maxRecDepth 100000
set_option maxHeartbeats 1000000
/-! PC: targets, list comprehensions. -/
namespace PC
open PySem L2
section
variable {W : Wd} {C : Cal} {ι ι' ι1 ι2 : List Addr} {S S' S0 S1 S2 : Sto} {H H' H1 H2 : Hp} {e e' : En} {σ σ' : L2.St} {X : Cx} {a b c : Expr} {ca cb cc : CE} {pos p : Pos} {es : List Expr} {cs : CEs}
def rdG (W : Wd) (t : Tg) : TG := fun v σ H Q => ∃ ι S e d e', Rep W ι S H ∧ EnV W ι H e σ ∧ DV W ι H d v ∧ putT t d e = some e' ∧ ∀ σ', EnV W ι H e' σ' → σ'.length = σ.length → (∀ j : Nat, j ∉ t.ixs → σ'[j]? = σ[j]?) → Q σ' H
def gNs : List Nat → TGs
  | [] => gNil
  | i :: is => gCons (gName i) (gNs is)
theorem gns_ok : ∀ {is : List Nat} {xs : List D} {vs : List V} {e : En} {σ : L2.St} {Q : L2.St → Hp → Prop}, DVs W ι H xs vs → xs.length = is.length → EnV W ι H e σ →
    (∀ σ', EnV W ι H ((is.zip xs).foldl (fun e (i, x) => e.set i (some x)) e) σ' → σ'.length = σ.length → (∀ j : Nat, j ∉ is → σ'[j]? = σ[j]?) → Q σ' H) → gNs is vs σ H Q
  | [], [], vs, e, σ, Q, h, hl, Ve, k => ⟨h, k σ Ve rfl fun _ _ => rfl⟩
  | [], _ :: _, _, _, _, _, _, hl, _, _ => by cases hl
  | _ :: _, [], _, _, _, _, _, hl, _, _ => by cases hl
  | i :: is, x :: xs, vs, e, σ, Q, ⟨v, r, ev, h, q⟩, hl, Ve, k => by
    refine ⟨v, r, ev, gns_ok q (by simpa using hl) (Ve.set h) fun σ' V' l' o' => k σ' V' (l'.trans (List.length_set ..)) fun j hj => ?_⟩
    rw [o' j fun z => hj (List.mem_cons_of_mem _ z), List.getElem?_set_ne]
    rintro rfl
    exact hj List.mem_cons_self
theorem ixOf_at : ∀ {N : List Str} {x : Str} {i : Nat}, ixOf N x = some i → N[i]? = some x
  | [], _, _, h => by cases h
  | y :: r, x, i, h => by
    unfold ixOf at h
    split at h
    · rename_i hx
      cases h
      rw [hx]
      rfl
    · obtain ⟨j, e, rfl⟩ := Option.map_eq_some_iff.mp h
      have z := ixOf_at e
      simpa using z
/-- a name's slot that may be stored to -/
theorem nm_at {N : List Str} {sc : Scope} {ex : Expr} {i : Nat} (h : nmOf N sc ex = some i) : ∃ x p, ex = .Name x p ∧ locB sc x = true ∧ N[i]? = some x := by
  unfold nmOf at h
  split at h
  · split at h
    · exact ⟨_, _, rfl, by assumption, ixOf_at h⟩
    · cases h
  · cases h
structure StB (X : Cx) (x : Str) : Prop where
  loc : Loc X.env.scope x
  fn : X.fn x = true ∨ X.env.scope.names.lookup x = some .local
theorem ok_names {N : List Str} {sc : Scope} (hN : X.N = N) (hd : N.Nodup) : ∀ {es : List Expr} {is : List Nat}, oMap (nmOf N sc) es = some is → (∀ x ∈ (es.filterMap fun e => match e with | .Name x _ => some x | _ => none), StB X x) →
    PGs X es (gNs is) ∧ (assignEach es X.env).length = is.length ∧ (assignEach es X.env).findIdx? (·.1) = none
  | [], _, h, _ => by cases h; exact ⟨pgs_nil, rfl, rfl⟩
  | ex :: es, _, h, hs => by
    simp only [oMap] at h
    split at h
    · rename_i i is hi his
      cases h
      obtain ⟨x, p, rfl, hx, hn⟩ := nm_at hi
      have h1 := hs x (by rw [List.filterMap_cons]; exact List.mem_cons_self)
      obtain ⟨q1, q2, q3⟩ := ok_names hN hd his fun y hy => hs y (by rw [List.filterMap_cons]; exact List.mem_cons_of_mem _ hy)
      have e : assignEach (.Name x p :: es) X.env = (false, assign (.Name x p) X.env) :: assignEach es X.env := rfl
      refine ⟨pgs_cons (pg_name (by rw [hN]; exact hd) (by rw [hN]; exact hn) h1.loc h1.fn) q1 (by rw [e]; rfl), by rw [e, List.length_cons, q2]; rfl, ?_⟩
      rw [e, List.findIdx?_cons, q3]
      rfl
    · cases h
theorem ok_tg {N : List Str} {sc : Scope} {tg : Expr} {t : Tg} (hN : X.N = N) (hd : N.Nodup) (hc : X.calm = true) (hK : X.K = W.K) (h : tgOf N sc tg = some t) (hs : ∀ x ∈ tgNms tg, StB X x) : PG X tg (rdG W t) := by
  unfold tgOf at h
  split at h
  · rename_i x p
    obtain ⟨i, hi, rfl⟩ := Option.map_eq_some_iff.mp h
    obtain ⟨x', p', e, hx, hn⟩ := nm_at hi
    cases e
    have h1 := hs x List.mem_cons_self
    refine ⟨fun pins s σ H v u Q I r q => (pg_name (by rw [hN]; exact hd) (by rw [hN]; exact hn) h1.loc h1.fn).run pins s σ H v u Q I r ?_⟩
    obtain ⟨ι, S, e, d, e', R, Ve, hv, hp, k⟩ := q
    cases hp
    refine k _ (Ve.set hv) (List.length_set ..) fun j hj => List.getElem?_set_ne ?_
    rintro rfl
    exact hj List.mem_cons_self
  · rename_i es kk tp
    obtain ⟨is, hi, rfl⟩ := Option.map_eq_some_iff.mp h
    obtain ⟨q1, q2, q3⟩ := ok_names hN hd hi hs
    refine ⟨fun pins s σ H v u Q I r q => (pg_tup hc q1 q2 q3).run pins s σ H v u Q I r ?_⟩
    obtain ⟨ι, S, e, d, e', R, Ve, hv, hp, k⟩ := q
    unfold putT at hp
    simp only at hp
    split at hp
    · split at hp
      · rename_i hl
        cases hp
        obtain ⟨a, vs, rfl, hq, hd⟩ := hv
        exact ⟨a, vs, rfl, by rw [hK]; exact hq, by rw [← DVs.length hd]; exact hl, gns_ok hd hl Ve k⟩
      · cases hp
    · cases hp
  · cases h

/-- names of a nested target -/
theorem ok_nest {N : List Str} {sc : Scope} {tg : Expr} {t : Tg} (hN : X.N = N) (hd : N.Nodup) (hc : X.calm = true) (hK : X.K = W.K) (h : nestOf N sc tg = some t) (hs : ∀ x, locB sc x = true → StB X x) : PG X tg (rdG W t) := by
  unfold nestOf at h
  split at h
  · rename_i a bs k1 p1 k2 p2
    split at h
    · rename_i i is hi his
      cases h
      obtain ⟨x, p, rfl, hx, hn⟩ := nm_at hi
      have h1 := hs x hx
      have hb : ∀ x ∈ (bs.filterMap fun e => match e with | .Name x _ => some x | _ => none), StB X x := fun y hy => by
        obtain ⟨e, he, hey⟩ := List.mem_filterMap.mp hy
        have key : ∀ {es : List Expr} {js : List Nat}, oMap (nmOf N sc) es = some js → ∀ e ∈ es, ∃ j, nmOf N sc e = some j := fun {es} => by
          induction es with
          | nil => intro js _ e he; cases he
          | cons c cs ih =>
            intro js hj e he
            simp only [oMap] at hj
            split at hj
            · rename_i i1 is1 hi1 his1
              rcases List.mem_cons.mp he with rfl | he
              · exact ⟨_, hi1⟩
              · exact ih his1 e he
            · cases hj
        obtain ⟨j, hj⟩ := key his e he
        obtain ⟨z, pz, rfl, hz, _⟩ := nm_at hj
        simp only [Option.some.injEq] at hey
        rw [← hey]
        exact hs z hz
      obtain ⟨q1, q2, q3⟩ := ok_names hN hd his hb
      have g2 : PG X (.Tuple bs k1 p1) _ := pg_tup hc q1 q2 q3
      have g3 : PG X (.Tuple [.Name x p, .Tuple bs k1 p1] k2 p2) _ := pg_tup (n := 2) hc (pgs_cons (pg_name (by rw [hN]; exact hd) (by rw [hN]; exact hn) h1.loc h1.fn) (pgs_cons g2 pgs_nil)) rfl rfl
      refine ⟨fun pins s σ H v u Q I r q => g3.run pins s σ H v u Q I r ?_⟩
      obtain ⟨ι, S, e, d, e', R, Ve, hv, hp, kk⟩ := q
      unfold putT at hp
      simp only at hp
      split at hp
      · rename_i dx xs
        split at hp
        · rename_i hl
          cases hp
          obtain ⟨a, vs, rfl, hq, hd1⟩ := hv
          obtain ⟨v1, r1, rfl, hv1, v2, r2, rfl, hv2, rfl⟩ := hd1
          obtain ⟨a2, vs2, rfl, hq2, hd2⟩ := hv2
          refine ⟨a, _, rfl, by rw [hK]; exact hq, rfl, v1, _, rfl, .ref a2, _, rfl, ⟨a2, vs2, rfl, by rw [hK]; exact hq2, by rw [← DVs.length hd2]; exact hl, ?_⟩⟩
          refine gns_ok hd2 hl (Ve.set hv1) fun σ' V' l' o' => ⟨rfl, kk σ' V' (l'.trans (List.length_set ..)) fun j hj => ?_⟩
          rw [o' j fun z => hj (List.mem_cons_of_mem _ z), List.getElem?_set_ne]
          rintro rfl
          exact hj List.mem_cons_self
        · cases hp
      · cases hp
    · cases h
  · cases h

/-! ### list comprehensions -/
theorem wipe_in : ∀ {vs : List Nat} {i : Nat}, i ∈ vs → i < σ.length → (L2.wipe σ vs)[i]? = some none
  | v :: vs, i, h, hl => by
    unfold L2.wipe
    by_cases e : v = i
    · subst e
      exact List.getElem?_set_self (by rw [wipe_length]; exact hl)
    · rw [List.getElem?_set_ne e]
      rcases List.mem_cons.mp h with z | z
      · exact absurd z.symm e
      · exact wipe_in z hl
theorem wipe_same {own : List Nat} (hl : σ'.length = (L2.wipe σ own).length) (h : ∀ j : Nat, j ∉ own → σ'[j]? = (L2.wipe σ own)[j]?) : L2.wipe σ' own = L2.wipe σ own := by
  rw [wipe_length] at hl
  refine List.ext_getElem? fun i => ?_
  by_cases hi : i ∈ own
  · by_cases hn : i < σ.length
    · rw [wipe_in hi hn, wipe_in hi (by omega)]
    · rw [List.getElem?_eq_none (by rw [wipe_length]; omega), List.getElem?_eq_none (by rw [wipe_length]; omega)]
  · rw [wipe_out hi, h i hi]
/-- the turn of a comprehension -/
abbrev lcT (C : Cal) (elt : CE) (tg : Tg) (ifs : CEs) (own : List Nat) (e : En) : D → Sto → Option (Option D × Sto) := lcTn (tstEs C ifs) (evE C elt) tg (wipe e own)
theorem ev_lc {elt : CE} {tg : Tg} {src : Src} {it ifs : CEs} {own : List Nat} {d : D} (h : evE C (.lc elt tg src it ifs own) e S = some (d, S')) :
    ∃ as S1 xs st ys S3, evEs C it e S = some (as, S1) ∧ itD src as S1 = some (xs, st) ∧ lcLoop (lcT C elt tg ifs own e) xs (st.foldl froz S1) = some (ys, S3) ∧ ys.length < line ∧ new (.lst ys) (st.foldl (thaw S1) S3) = some (d, S') := by
  simp only [evE] at h
  obtain ⟨as, S1, e1, h⟩ := bnd_some h
  split at h
  · rename_i ys S2 hr
    split at h
    · rename_i hz
      unfold lcRun at hr
      split at hr
      · rename_i xs st hi
        split at hr
        · rename_i ys' S3 hl
          cases hr
          exact ⟨as, S1, xs, st, ys, S3, e1, hi, hl, hz, h⟩
        · cases hr
      · cases hr
    · cases h
  · cases h
theorem lc_main {elt : CE} {tg : Tg} {ifs : CEs} {own : List Nat} {J : It} {xs ys : List D} {Sf S3 : Sto} {Q : VK} (hown : ∀ i ∈ tg.ixs, i ∈ own) (Rf : Rep W ι1 Sf H1) (Ve : EnV W ι1 H1 e σ) (w : WkD W J xs ι1 Sf H1) (hlp : lcLoop (lcT C elt tg ifs own e) xs Sf = some (ys, S3)) (hz : ys.length < line)
    (fin : ∀ ι H A vs, H1 A = none → Ext ι1 Sf H1 ι S3 H → Rep W ι S3 H → A ∉ ι → H A = some (.lst vs) → DVs W ι H ys vs → Q (.ref A) H) :
    tLc (fun _ H R => R J H) (rdG W tg) (rdTs W C ifs) (rdE W C elt) own σ H1 Q := by
  obtain ⟨G, Y, wk, hY⟩ := w
  intro A hA
  have hA1 : A ∉ ι1 := Rf.fresh hA
  refine lc_it wk (fun i H => ∃ ι S acc vs rest, Ext ι1 (Sf) H1 ι S H ∧ Rep W ι S H ∧ A ∉ ι ∧ H A = some (.lst vs) ∧ DVs W ι H acc vs ∧ lcLoop (lcT C elt tg ifs own e) (xs.drop i) S = some (rest, S3) ∧ acc ++ rest = ys) ?_ ?_ ?_ ?_
  · obtain ⟨Rp, Ep⟩ := Rf.put hA (.lst [])
    exact ⟨ι1, _, [], [], ys, Ep, Rp, hA1, upd_same, rfl, hlp, rfl⟩
  · rintro i H hi ⟨ι, S, acc, vs, rest, E, R, hn, hq, hd, hl, he⟩
    exact (hY ι S H E R).1
  · rintro i x H H' hi ⟨ι, S, acc, vs, rest, E, R, hn, hq, hd, hl, he⟩ hy
    obtain ⟨R', E', dx, hx, hdx⟩ := (hY ι S H E R).2 i x H' hi hy
    have hq' : H' A = some (.lst vs) := E'.keep A _ hq (fun ps z => nomatch z) fun z => absurd z hn
    have hd' := DVs.mono E' R _ _ hd
    have e0 : xs.drop i = dx :: xs.drop (i + 1) := by
      rw [List.drop_eq_getElem_cons hi]
      rw [List.getElem?_eq_getElem hi] at hx
      cases hx
      rfl
    rw [e0] at hl
    simp only [lcLoop] at hl
    split at hl
    · rename_i o S4 ho
      split at hl
      · rename_i rest' S5 hl'
        cases hl
        unfold lcT lcTn at ho
        split at ho
        · rename_i e2 hp
          have Vw : EnV W ι H' (wipe e own) (L2.wipe σ own) := by
            exact ((Ve.mono E Rf).mono E' R).wipe own
          refine ⟨ι, S, _, dx, e2, R', Vw, hdx, hp, fun σ2 V2 l2 o2 => ⟨wipe_same l2 fun j hj => o2 j fun z => hj (hown j z), ?_⟩⟩
          have Eb : Ext ι1 (Sf) H1 ι S H' := E.trans R E'
          split at ho
          · rename_i S6 ht
            split at ho
            · rename_i y S7 hv
              cases ho
              refine ⟨ι, S, e2, true, S6, R', V2, ht, fun ι3 H3 E3 R3 => ?_⟩
              simp only [if_true]
              have hq3 : H3 A = some (.lst vs) := E3.keep A _ hq' (fun ps z => nomatch z) fun z => absurd z hn
              have hn3 := not_in E3 hq' hn
              refine rdE_then R3 (V2.mono E3 R') hv fun ι4 H4 u E4 R4 hu V4 => ?_
              have hq4 : H4 A = some (.lst vs) := E4.keep A _ hq3 (fun ps z => nomatch z) fun z => absurd z hn3
              have hn4 := not_in E4 hq3 hn3
              have hd4 := DVs.mono E4 R3 _ _ (DVs.mono E3 R' _ _ hd')
              refine ⟨vs, hq4, ?_, ι4, _, acc ++ [y], vs ++ [u], rest', ?_, R4.beside hn4 hq4 trivial, hn4, upd_same, ?_, hl', ?_⟩
              · rw [← DVs.length hd]
                have : (acc ++ ([y] ++ rest')).length = ys.length := by rw [← he]; rfl
                simp only [List.length_append, List.length_singleton] at this
                have h2 : line = sizeLine := rfl
                omega
              · exact ((Eb.trans R' E3).trans R3 E4).beside hA
              · exact DVs.gen (fun _ _ h => h) (own_keep hq4 trivial) _ _ (DVs.append hd4 ⟨u, [], rfl, hu, rfl⟩)
              · rw [← he, List.append_assoc]
                rfl
            · cases ho
          · rename_i S6 ht
            cases ho
            refine ⟨ι, S, e2, false, S4, R', V2, ht, fun ι3 H3 E3 R3 => ?_⟩
            simp only [Bool.false_eq_true, if_false]
            have hq3 : H3 A = some (.lst vs) := E3.keep A _ hq' (fun ps z => nomatch z) fun z => absurd z hn
            exact ⟨ι3, _, acc, vs, rest', Eb.trans R' E3, R3, not_in E3 hq' hn, hq3, DVs.mono E3 R' _ _ hd', hl', he⟩
          · cases ho
        · cases ho
      · cases hl
    · cases hl
  · rintro H ⟨ι, S, acc, vs, rest, E, R, hn, hq, hd, hl, he⟩
    rw [List.drop_length] at hl
    simp only [lcLoop] at hl
    cases hl
    rw [List.append_nil] at he
    subst he
    exact fin ι H A vs hA E R hn hq hd
theorem lc_ok {elt : CE} {tg : Tg} {src : Src} {it ifs : CEs} {own : List Nat} (hown : ∀ i ∈ tg.ixs, i ∈ own) (σ : L2.St) (H : Hp) (Q : VK) (h : rdE W C (.lc elt tg src it ifs own) σ H Q) :
    tLc (wiS W C src it) (rdG W tg) (rdTs W C ifs) (rdE W C elt) own σ H Q := by
  obtain ⟨ι0, S0, e, d, S', R0, Ve, ev, g⟩ := h
  obtain ⟨as, S1, xs, st, ys, S3, e1, hi, hlp, hz, hnew⟩ := ev_lc ev
  cases hnew
  refine ⟨ι0, S0, e, as, S1, xs, st, R0, Ve, e1, hi, fun ι1 H1 J E1 R1 w => ?_⟩
  refine lc_main hown R1.froz ((Ve.mono E1 R0).mono (fr_refl (st := st)) R1) w hlp hz fun ι H A vs hA E R hn hq hd => ?_
  obtain ⟨R2, E2⟩ := loop_end E R
  have eu : upd H A (.lst vs) = H := by
    funext b
    unfold upd
    split
    · rename_i hb
      rw [hb, hq]
    · rfl
  have hi : ∀ (n : Nat) a, ι[n]? = some a → (ι ++ [A])[n]? = some a := fun n a h => by
    rw [List.getElem?_append_left (List.getElem?_eq_some_iff.mp h).1]
    exact h
  have ho : OV W (ι ++ [A]) (upd H A (.lst vs)) A (.lst ys) := ⟨vs, upd_same, DVs.gen hi (own_keep hq trivial) _ _ hd⟩
  obtain ⟨R3, E3⟩ := adopt (u' := .lst vs) E2 R2 hA hn hq trivial ho
  rw [eu] at R3 E3
  refine g _ _ _ (E1.trans R1 E3) R3 ⟨A, rfl, ?_⟩
  rw [← R2.len, List.getElem?_append_right (Nat.le_refl _)]
  simp
theorem rdTs_nil {X : Cx} : PTs X [] (rdTs W C .nil) := pts_nil.w fun σ H Q ⟨ι, S, e, b, S', R, Ve, ev, g⟩ => by
  simp only [tstEs] at ev
  cases ev
  exact g.here R
theorem rdTs_one {X : Cx} (h : PT X a (rdT W C ca)) : PTs X [a] (rdTs W C (.cons ca .nil)) := (pts_one h).w fun σ H Q ⟨ι, S, e, b, S', R, Ve, ev, g⟩ => by
  simp only [tstEs] at ev
  obtain ⟨x, S1, e1, ev⟩ := bnd_some ev
  split at ev
  · rename_i ht
    cases ev
    exact ⟨ι, S, e, true, S', R, Ve, tst_of e1 ht, g⟩
  · rename_i ht
    cases ev
    exact ⟨ι, S, e, false, S', R, Ve, tst_of e1 ht, g⟩
  · cases ev
end
end PC
end
section
set_option Elab.async false
set_option linter.all false
set_option maxRecDepth 100000
set_option maxHeartbeats 1000000
/-! PC: lambdas handed on and called. -/
namespace PC
open PySem L2
/-! ### lent things put away -/
/-- without what stands at A -/
def dropA (A : List Addr) (H : Hp) : Hp := fun a => if a ∈ A then none else H a
/-- what H has at A put back -/
def putA (A : List Addr) (H H1 : Hp) : Hp := fun a => if a ∈ A then H a else H1 a
/-- lent: known by their objects, no code, no table -/
def Lent (H : Hp) (A : List Addr) : Prop := ∀ a ∈ A, ∃ o, H a = some (ObO a o) ∧ (∀ vs, o.data ≠ .fields vs) ∧ ∀ es ep, o.data ≠ .dict es ep
section
variable {W : Wd} {C : Cal} {ι ι' ι1 ι2 : List Addr} {S S' S0 S1 S2 : Sto} {H H' H1 H2 : Hp} {e e' : En} {σ σ' : L2.St} {X : Cx} {P : Program} {w : World} {h : Heap} {A : List Addr}
theorem drop_in {a : Addr} (h : a ∈ A) : dropA A H a = none := if_pos h
theorem drop_out {a : Addr} (h : a ∉ A) : dropA A H a = H a := if_neg h
theorem drop_some {a : Addr} {o : HO} (h : dropA A H a = some o) : a ∉ A ∧ H a = some o := by
  by_cases q : a ∈ A
  · rw [drop_in q] at h
    cases h
  · exact ⟨q, by rw [← h, drop_out q]⟩
theorem drop_none {a : Addr} (h : H a = none) : dropA A H a = none := by
  unfold dropA
  split
  · rfl
  · exact h
theorem back_in {a : Addr} (h : a ∈ A) : putA A H H1 a = H a := if_pos h
theorem back_out {a : Addr} (h : a ∉ A) : putA A H H1 a = H1 a := if_neg h
theorem obo_get (ok : HOk P w H h) {a : Addr} {o : Obj} (e : H a = some (ObO a o)) : h.get? a = some o := by
  obtain ⟨z, _, _⟩ := ok a _ e
  exact z
theorem Lent.not {a : Addr} {u : HO} (L : Lent H A) (e : H a = some u) (ne : ∀ φ, u ≠ .ext φ) : a ∉ A := fun z => by
  obtain ⟨o, q, _⟩ := L a z
  rw [e] at q
  exact ne _ (Option.some.inj q)
theorem Lent.own {a : Addr} {u : HO} (L : Lent H A) (e : H a = some u) (own : Own u) : a ∉ A := fun z => by
  obtain ⟨o, q, _, nd⟩ := L a z
  rw [e] at q
  cases q
  exact obo_no nd own
theorem Lent.tf (L : Lent H A) : ∀ a o, H a = some o → TF o → dropA A H a = some o := fun a o e t => by
  rw [drop_out]
  · exact e
  · exact L.not e fun φ z => by rw [z] at t; exact t
theorem Rep.drop (R : Rep W ι S H) (L : Lent H A) (ok : HOk P w H h) : Rep W ι S (dropA A H) := by
  refine ⟨R.len, R.nd, fun n a o h1 h2 => ?_, fun p hp => ?_⟩
  · have q := R.ob n a o h1 h2
    refine OV.gen (fun _ _ h => h) L.tf q ?_
    obtain ⟨u, e, own⟩ := OV.held q
    rw [drop_out (L.own e own)]
  · obtain ⟨ps, h1, h2, h3⟩ := R.tab p hp
    refine ⟨ps, by rw [drop_out (L.not h1 fun φ z => by cases z)]; exact h1, h2, fun pos cv hc => ?_⟩
    obtain ⟨c, e1, e2⟩ := h3 pos cv hc
    refine ⟨c, e1, ?_⟩
    rw [drop_out]
    · exact e2
    · intro hm
      obtain ⟨o, q, nf, _⟩ := L c hm
      have g := obo_get ok q
      obtain ⟨⟨oc, vs, t, g1, g2, _⟩, _, _⟩ := ok c _ e2
      rw [g] at g1
      cases g1
      exact nf vs g2
theorem Ext.back' (L : Lent H A) (E : Ext ι S (dropA A H) ι' S' H1) (hn : ∀ a ∈ A, a ∉ ι') : Ext ι S H ι' S' (putA A H H1) := by
  obtain ⟨new, e, hnew⟩ := E.pre
  refine ⟨⟨new, e, fun a ha o ho => hnew a ha o ?_⟩, fun a o ho nt k => ?_, E.fr⟩
  · rw [drop_out]
    · exact ho
    · intro z
      exact hn a z (by rw [e]; exact List.mem_append_right _ ha)
  · by_cases ha : a ∈ A
    · rw [back_in ha]
      exact ho
    · rw [back_out ha]
      exact E.keep a o (by rw [drop_out ha]; exact ho) nt k
theorem Rep.back' (R : Rep W ι' S' H1) (hn : ∀ a ∈ A, H1 a = none) : Rep W ι' S' (putA A H H1) := by
  have out : ∀ {a o}, H1 a = some o → a ∉ A := fun {a o} e z => by
    rw [hn a z] at e
    cases e
  refine ⟨R.len, R.nd, fun n a o h1 h2 => ?_, fun p hp => ?_⟩
  · have q := R.ob n a o h1 h2
    obtain ⟨u, e, own⟩ := OV.held q
    exact OV.gen (fun _ _ h => h) (fun b v hb _ => by rw [back_out (out hb)]; exact hb) q (back_out (out e))
  · obtain ⟨ps, h1, h2, h3⟩ := R.tab p hp
    refine ⟨ps, by rw [back_out (out h1)]; exact h1, h2, fun pos cv hc => ?_⟩
    obtain ⟨c, e1, e2⟩ := h3 pos cv hc
    exact ⟨c, e1, by rw [back_out (out e2)]; exact e2⟩
theorem DV.back' (hn : ∀ a ∈ A, H1 a = none) {d : D} {v : V} (hd : DV W ι' H1 d v) : DV W ι' (putA A H H1) d v :=
  DV.gen (fun _ _ h => h) (fun b v hb _ => by
    rw [back_out]
    · exact hb
    · intro z
      rw [hn b z] at hb
      cases hb) _ _ hd
theorem HOk.drop' (ok : HOk P w H h) (L : Lent H A) : HOk P w (dropA A H) h := fun a o e => by
  obtain ⟨ha, e⟩ := drop_some e
  refine (ok a o e).stay (fun _ _ _ q => q) (fun b q => ?_) fun b xs q => ?_
  · rw [drop_out (L.not q fun φ z => by cases z)]
    exact q
  · rw [drop_out (L.not q fun φ z => by cases z)]
    exact q
theorem HOk.back' {h' : Heap} (ok : HOk P w H h) (L : Lent H A) (ok1 : HOk P w H1 h') (hn : ∀ a ∈ A, H1 a = none) (keep : ∀ a ∈ A, ∀ o, h.get? a = some o → h'.get? a = some o) : HOk P w (putA A H H1) h' := fun a o e => by
  by_cases ha : a ∈ A
  · rw [back_in ha] at e
    obtain ⟨ob, q, _⟩ := L a ha
    rw [q] at e
    cases e
    obtain ⟨z1, _, z3⟩ := ok a _ q
    have g := keep a ha _ z1
    exact ⟨g, ⟨_, g⟩, z3⟩
  · rw [back_out ha] at e
    have out : ∀ {a o}, H1 a = some o → a ∉ A := fun {a o} e z => by
      rw [hn a z] at e
      cases e
    refine (ok1 a o e).stay (fun _ _ _ q => q) (fun b q => ?_) fun b xs q => ?_
    · rw [back_out (out q)]
      exact q
    · rw [back_out (out q)]
      exact q
theorem Un.back' {fs : List Addr} {h h' : Heap} (L : Lent H A) (U : Un fs [] (dropA A H) H1 h h') : Un fs [] H (putA A H H1) h h' where
  keep := fun b o e n k x => U.keep b o e (drop_none n) k x
  slot := fun b o e n k x => U.slot b o e (drop_none n) k x
  free := fun b o e n x => by
    have hb : b ∉ A := fun z => by
      obtain ⟨o, q, _⟩ := L b z
      rw [n] at q
      cases q
    rw [back_out hb]
    exact U.free b o e (drop_none n) x
  there := U.there
  tups := fun b xs e => by
    have hb := L.not e fun φ z => by cases z
    rw [back_out hb]
    exact U.tups b xs (by rw [drop_out hb]; exact e)
  frzs := fun b o u e => by
    have hb := L.not e fun φ z => by cases z
    rw [back_out hb]
    exact U.frzs b o u (by rw [drop_out hb]; exact e)
  tbls := fun b ps e => by
    have hb := L.not e fun φ z => by cases z
    obtain ⟨more, q⟩ := U.tbls b ps (by rw [drop_out hb]; exact e)
    exact ⟨more, by rw [back_out hb]; exact q⟩
end
/-- arguments, each by itself -/
inductive PAs (W : Wd) (C : Cal) (X : Cx) : List Expr → CEs → Prop where
  | nil : PAs W C X [] .nil
  | cons {a : Expr} {ca : CE} {es : List Expr} {cs : CEs} (ha : PE X a (rdE W C ca)) (hs : notStar a = true) (t : PAs W C X es cs) : PAs W C X (a :: es) (.cons ca cs)
/-! ### a lambda's promise -/
def spL (W : Wd) (C : Cal) (l : Nat) (f : Addr) : List V → Hp → VK → Prop := fun vs H Q => ∃ ι S ds cs d S', Rep W ι S H ∧ LamV W ι H l cs f ∧ DVs W ι H ds vs ∧ C.lam l ds cs S = some (d, S') ∧ Gd W ι S H S' d Q
def LmG (P : Program) (w : World) (W : Wd) (C : Cal) (mg : Str → Option Value) (base : Heap) (k l : Nat) : Prop :=
  ∀ (A : Around) (outer : List Env) (s : Shared) (H : Hp) (f : Addr) (us : List Value) (vs : List V) (Q : VK), Room k A → A.guards = some [] → Env0 P w W.K mg base A outer s H → Vals vs us → spL W C l f vs H Q →
    codeAny (model P w) A (.call (.ref f) ⟨us, []⟩) (CR CX0 outer P w H s Q E0) s
section
variable {W : Wd} {C : Cal} {ι ι' ι1 ι2 : List Addr} {S S' S0 S1 S2 : Sto} {H H' H1 H2 : Hp} {e e' : En} {σ σ' : L2.St} {X : Cx} {a b c : Expr} {ca cb cc : CE} {pos p : Pos} {es : List Expr} {cs : CEs}
theorem LamV.fn {pins : List (Addr × Obj)} {s : Shared} {l : Nat} {ds : List D} {f : Addr} (I : L2.Inv X pins σ H s) (h : LamV W ι H l ds f) : PySem.W.FnAt f s.heap := by
  obtain ⟨Im, c, cl, pm, ct, vs, h1, h2, _⟩ := h
  exact ⟨_, _, _, _, obo_get I.hok h2⟩
/-- f(..), f a lambda that was handed in -/
theorem ok_app {k j : Nat} {x : Str} (hK : X.K = W.K) (hr : Room k X.A) (hgd : X.A.guards = some []) (hL : ∀ l, LmG X.prog X.w W C X.mg X.base k l) (hN : X.N[j]? = some x) (hv : Vis X.env.scope x) (h1 : x ≠ "__debug__") (h2 : x ≠ "__classdict__") (ha : PA X (a :: es) (rdA W C cs)) (hs : (a :: es).all notStar = true) :
    PE X (.Call (.Name x p) (a :: es) [] pos) (rdE W C (.app j cs)) := by
  refine ⟨fun pins s σ H Q I q => ?_⟩
  obtain ⟨ι, S, e, d, S', R, Ve, ev, g⟩ := q
  simp only [evE] at ev
  split at ev
  · rename_i l ls hj
    obtain ⟨v, hv1, hx⟩ := Ve.2 j _ hj
    rcases hx with hx | ⟨l', ls', f, e1, rfl, hx⟩
    · exact hx.elim
    · cases e1
      obtain ⟨xs, S1, e2, ev⟩ := bnd_some ev
      refine wpAny_Call_Name_kw (thn ((pe_var (pos := p) hN hv (beq_eq_false_iff_ne.mpr h1) (beq_eq_false_iff_ne.mpr h2)).run pins s σ H (fun v H1 => v = .ref f ∧ H1 = H) I ⟨.ref f, hv1, rfl, rfl⟩) fun u s1 ⟨v, H1, I1, r1, q1⟩ => ?_)
      obtain ⟨rfl, eH⟩ := q1
      rw [eH] at I1
      cases (show u = Value.ref f from r1)
      rw [List.all_cons, Bool.and_eq_true] at hs
      refine PySem.W.callWith_F (first := []) (hx.fn I1) (thn (ha.run pos pins s1 σ H (fun vs H2 => LamV W ι H2 l ls f ∧ spL W C l f vs H2 Q ∨ ∃ ι2, LamV W ι2 H2 l ls f ∧ spL W C l f vs H2 Q) I1 (rdA_then R Ve e2 fun ι2 H2 vs E2 R2 hv2 V2 => .inr ⟨ι2, hx.mono E2 R, ι2, S1, xs, ls, d, S', R2, hx.mono E2 R, hv2, ev, g.thru E2 R2⟩)) fun us s2 ⟨vs, H2, I2, r, q⟩ => ?_) (star_cons hs.1) (back_any hs.2)
      have q' : ∃ ι2, LamV W ι2 H2 l ls f ∧ spL W C l f vs H2 Q := by
        rcases q with q | q
        · exact ⟨ι, q⟩
        · exact q
      obtain ⟨ι2, q1, q2⟩ := q'
      refine ⟨q1.fn I2, ?_⟩
      show wpAny _ _ (PySem.call (.ref f) us) _ _ _
      refine wpAny_call (codeAny_mono (hL l X.A X.stack s2 H2 f us vs Q hr hgd (hK ▸ I2.env0) r q2) fun r s' hq => ?_)
      obtain ⟨u, rfl, q⟩ := back_fn I2 hq
      exact q
  · cases ev
/-- arguments, the last one a slot with a lambda -/
theorem pa_lam {j : Nat} {x : Str} {px : Pos} (hN : X.N[j]? = some x) (hv : Vis X.env.scope x) (h1 : x ≠ "__debug__") (h2 : x ≠ "__classdict__") : ∀ {es : List Expr} {cs : CEs}, PAs W C X es cs → PA X (es ++ [.Name x px]) (fun σ H Q => ∃ ι S e ds S' l ls, Rep W ι S H ∧ EnV W ι H e σ ∧ e[j]? = some (some (.lam l ls)) ∧ evEs C cs e S = some (ds, S') ∧
      ∀ ι' H' vs, Ext ι S H ι' S' H' → Rep W ι' S' H' → DXs W ι' H' (ds ++ [.lam l ls]) vs → Q vs H')
  | _, _, .nil => (pa_cons (pe_var hN hv (beq_eq_false_iff_ne.mpr h1) (beq_eq_false_iff_ne.mpr h2)) pa_nil rfl).w fun σ H Q ⟨ι, S, e, ds, S', l, ls, R, Ve, hj, ev, g⟩ => by
    simp only [evEs] at ev
    cases ev
    obtain ⟨v, hv1, hx⟩ := Ve.2 j _ hj
    exact ⟨v, hv1, g ι H [v] .refl R ⟨v, [], rfl, hx, rfl⟩⟩
  | _, _, .cons (es := es) ha hs t => (pa_cons ha (pa_lam hN hv h1 h2 t) (star_cons hs)).w fun σ H Q ⟨ι, S, e, ds, S', l, ls, R, Ve, hj, ev, g⟩ => by
    simp only [evEs] at ev
    obtain ⟨x, S1, e1, ev⟩ := bnd_some ev
    obtain ⟨xs, S2, e2, ev⟩ := bnd_some ev
    cases ev
    exact rdE_then R Ve e1 fun ι1 H1 v E1 R1 hv V1 => ⟨ι1, S1, e, xs, _, l, ls, R1, V1, hj, e2, fun ι2 H2 vs E2 R2 hx => g ι2 H2 (v :: vs) (E1.trans R1 E2) R2 ⟨v, vs, rfl, .inl (DV.mono E2 R1 _ _ hv), hx⟩⟩
theorem ok_callV {f : Addr} {fd : FuncData} {ps : List Str} {k id j : Nat} {x y : Str} {py : Pos} (F : FnG X.prog X.w X.K X.mg X.base k f fd ps (spF W C id)) (hr : Room k X.A) (hgd : X.A.guards = some []) (hg : Gl X x) (hm : X.mg x = some (.ref f)) (hk : PySem.W.keepIn X.K (.ref f) = true) (hb : Binds X.K fd ps [])
    (hdb : x ≠ "__debug__") (ha : PA X (es ++ [.Name y py]) (fun σ H Q => ∃ ι S e ds S' l ls, Rep W ι S H ∧ EnV W ι H e σ ∧ e[j]? = some (some (.lam l ls)) ∧ evEs C cs e S = some (ds, S') ∧
      ∀ ι' H' vs, Ext ι S H ι' S' H' → Rep W ι' S' H' → DXs W ι' H' (ds ++ [.lam l ls]) vs → Q vs H')) (hs : es.all notStar = true) :
    PE X (.Call (.Name x p) (es ++ [.Name y py]) [] pos) (rdE W C (.callV id cs j)) := by
  have key : ∀ σ H Q, rdE W C (.callV id cs j) σ H Q → (fun σ H (Q : List V → Hp → Prop) => ∃ ι S e ds S' l ls, Rep W ι S H ∧ EnV W ι H e σ ∧ e[j]? = some (some (.lam l ls)) ∧ evEs C cs e S = some (ds, S') ∧
      ∀ ι' H' vs, Ext ι S H ι' S' H' → Rep W ι' S' H' → DXs W ι' H' (ds ++ [.lam l ls]) vs → Q vs H') σ H fun vs H1 => spF W C id vs H1 Q := fun σ H Q ⟨ι, S, e, d, S', R, Ve, ev, g⟩ => by
    simp only [evE] at ev
    split at ev
    · rename_i l ls hj
      obtain ⟨xs, S1, e1, ev⟩ := bnd_some ev
      exact ⟨ι, S, e, xs, S1, l, ls, R, Ve, hj, e1, fun ι1 H1 vs E1 R1 hv => ⟨ι1, S1, _, d, S', R1, hv, ev, g.thru E1 R1⟩⟩
    · cases ev
  have hdb' := beq_eq_false_iff_ne.mpr hdb
  have hs' : (es ++ [Expr.Name y py]).all notStar = true := by rw [List.all_append, hs]; rfl
  cases es with
  | nil => exact (pe_callG F hr hgd hg hm hk hb ha hs' hdb').w key
  | cons a r => exact (pe_callG F hr hgd hg hm hk hb ha hs' hdb').w key
end
end PC
end
section
set_option Elab.async false
set_option linter.all false
set_option maxRecDepth 100000
set_option maxHeartbeats 1000000
/-! PC: instances of the text's own classes: fields, their making, their methods. -/
namespace PC
open PySem L2
/-! ### at the abstract heap -/
section
variable {X : Cx} {C : Addr} {k : Nat} {f : Addr} {fd : FuncData} {ps : List Str} {sp : List V → Hp → VK → Prop} {x m : Str} {p pos apos : Pos} {e o : Expr} {es : List Expr} {t : TA} {ta : TE}
theorem make_guards {A : Around} {C : Addr} {us : List Value} {kw : List (Str × Value)} (h : A.guards = some []) : (A.under (.builtin "type.__call__" ⟨.ref C :: us, kw⟩)).guards = some [] := by
  first
    | exact h
    | simp [Around.under, Code.weight, Code.isCreation, Code.isGuard, Code.isCaller, Code.frames, Code.isFrame, guardIds, h]
/-- C(..), its __init__ keeping sp -/
def tMakeG (C : Addr) (sp : List V → Hp → VK → Prop) (t : TA) : TE := fun σ H Q => t σ H fun vs H1 => ∀ x dx, H1 x = none → H1 dx = none → dx ≠ x → sp (.ref x :: vs) (upd (upd H1 dx (.own x)) x (.ins C dx [])) (fun v H2 => v = .non ∧ Q (.ref x) H2)
theorem run_makeG {pins : List (Addr × Obj)} {σ : L2.St} {H : Hp} {s : Shared} {Q : VK} {us : List Value} {vs : List V} (M : Mk X.K C f) (F : FnG X.prog X.w X.K X.mg X.base k f fd ps sp) (hr : Room (k + 1) X.A) (hgd : X.A.guards = some []) (hb : Binds X.K fd ps [])
    (I : L2.Inv X pins σ H s) (r : Vals vs us)
    (h : ∀ x dx, H x = none → H dx = none → dx ≠ x → sp (.ref x :: vs) (upd (upd H dx (.own x)) x (.ins C dx [])) (fun v H2 => v = .non ∧ Q (.ref x) H2)) :
    wpAny (model X.prog X.w) X.A (PySem.call (.ref C) us) (EP X pins σ Q) X.xe s := by
  have hq := h (s.heap.objs.size + 1) s.heap.objs.size (I.hok.fresh (Nat.le_succ _)) (I.hok.fresh (Nat.le_refl _)) (Nat.ne_of_lt (Nat.lt_succ_self _))
  have I2 := Inv.made (C := C) I
  have r2 : Vals (V.ref (s.heap.objs.size + 1) :: vs) (Value.ref (s.heap.objs.size + 1) :: us) := .cons rfl r
  have hl : ((Value.ref (s.heap.objs.size + 1) :: us) ++ []).length = ps.length := by
    have e := r2.length
    rw [F.len _ _ _ hq] at e
    rw [List.append_nil]
    exact e.symm
  have b := hb _ (Value.ref (s.heap.objs.size + 1) :: us) I2.kIn hl
  rw [List.append_nil] at b
  refine wpAny_call (make_map (f := f) I.kIn M.makes M.init (beq_iff_eq.mp M.fn) (codeAny_mono (F.run _ X.stack _ _ ⟨Value.ref (s.heap.objs.size + 1) :: us, []⟩ (Value.ref (s.heap.objs.size + 1) :: us) _ _ (hr.make C us []) (make_guards hgd)
    (I2.env0.make C us []) b r2 hq) fun r s' hq' => ?_))
  cases r with
  | error e => exact False.elim hq'
  | ok fl =>
    cases fl with
    | ret u =>
      obtain ⟨v, H', I3, rv, ev, q3⟩ := I2.after hq'
      subst ev
      exact ⟨rv, ⟨V.ref (s.heap.objs.size + 1), H', I3, rfl, q3⟩⟩
    | next => exact False.elim hq'
    | brk => exact False.elim hq'
    | cont => exact False.elim hq'
theorem pe_makeG (M : Mk X.K C f) (F : FnG X.prog X.w X.K X.mg X.base k f fd ps sp) (hr : Room (k + 1) X.A) (hgd : X.A.guards = some []) (hg : Gl X x) (hm : X.mg x = some (.ref C)) (hb : Binds X.K fd ps [])
    (ha : PA X (e :: es) t) (hs : (e :: es).all notStar = true) (hdb : (x == ("__debug__" : Str)) = false) : PE X (.Call (.Name x p) (e :: es) [] pos) (tMakeG C sp t) := by
  refine ⟨fun pins s σ H Q I h => wpAny_Call_Name_kw (ld_glob I hg hm ?_ hdb)⟩
  rw [List.all_cons, Bool.and_eq_true] at hs
  refine PySem.W.callWith_K (h₀ := X.base) I.ok.mod.kin M.kp (thn (ha.run pos pins s σ H _ I h) fun us s1 ⟨vs, H1, I1, r, q⟩ => ⟨I1.kIn, ?_⟩) (star_cons hs.1) (back_any hs.2)
  exact run_makeG M F hr hgd hb I1 r q
theorem pe_makeG0 (M : Mk X.K C f) (F : FnG X.prog X.w X.K X.mg X.base k f fd ps sp) (hr : Room (k + 1) X.A) (hgd : X.A.guards = some []) (hg : Gl X x) (hm : X.mg x = some (.ref C)) (hb : Binds X.K fd ps [])
    (hdb : (x == ("__debug__" : Str)) = false) : PE X (.Call (.Name x p) [] [] pos) (tMakeG C sp tNil) := by
  refine ⟨fun pins s σ H Q I h => wpAny_Call_Name_kw (ld_glob I hg hm ?_ hdb)⟩
  exact PySem.W.callWith_K0 I.kIn M.kp (run_makeG (us := []) M F hr hgd hb I .nil h)
def tMethG (C : Addr) (m : Str) (sp : List V → Hp → VK → Prop) (ta : TE) (t : TA) : TE := fun σ H Q => ta σ H fun x H1 => ∃ a dx fs, x = .ref a ∧ H1 a = some (.ins C dx fs) ∧ fs.lookup m = none ∧ t σ H1 fun vs H2 => sp (x :: vs) H2 Q
theorem few_es {env : Env} {cp : Pos} : ∀ {es : List Expr}, es.all notStar = true → (backTo cp (starEach es env)).all (fun x => !x.1) = true
  | [], _ => rfl
  | a :: r, h => by
    rw [List.all_cons, Bool.and_eq_true] at h
    rw [star_cons h.1]
    exact few_es (es := r) h.2
theorem meth_late {M : Model} {A : Around} {E : Value → Shared → Prop} {s : Shared} {env : Env} {o : Expr} {m : Str} {apos cp : Pos} {es : List Expr} {Q : Value → Shared → Prop} (hb : attributeBase o m env (eval o env) = eval o env) (hs : es.all notStar = true) (hn : es.length < 29) (hl : (apos.endLine == cp.line) = true)
    (h : wpAny M A (eval o env) (fun ov s1 => wpAny M A (getMethod ov m (do return (← importBound o env).getD true)) (fun fx s2 => wpAny M A (callWith cp fx.1 fx.2 (backTo cp (starEach es env)) (backToKw cp (keywordEach [] env))) Q E s2) E s1) E s) :
    wpAny M A (eval (.Call (.Attribute o m apos) es [] cp) env) Q E s := by
  have hform : methodCallForm (es.length + ([] : List Keyword).length) (backTo cp (starEach es env)) (backToKw cp (keywordEach [] env)) = true := by
    unfold methodCallForm
    rw [few_es hs]
    show (true && decide (es.length + 0 + 0 < 30)) = true
    rw [Bool.true_and]
    exact decide_eq_true (by omega)
  have hpos : methodCallPos true o env apos cp = pure cp := by unfold methodCallPos; simp [hl]
  rw [arm_eval_Call, hb]
  refine wpAny_bind (wpAny_mono h (fun ov s1 h1 => ?_) fun _ _ e => e)
  refine wpAny_bind (wpAny_standAt ?_)
  unfold methodCall
  rw [hform]
  refine wpAny_bind (wpAny_holding (wpAny_mono h1 (fun fx s2 h2 => ?_) fun _ _ e => e))
  exact wpAny_bind (wpAny_of_eq hpos h2)
theorem pe_methG (he : PE X o ta) (c : L2.Cls X.K C) (hm : Meth X.K C m f) (F : FnG X.prog X.w X.K X.mg X.base k f fd ps sp) (hr : Room k X.A) (hgd : X.A.guards = some []) (hb : Binds X.K fd ps []) (ha : PA X (e :: es) t)
    (hs : (e :: es).all notStar = true) (hn : (e :: es).length < 29) (hc : isCall o = false) (hl : (apos.endLine == pos.line) = true) : PE X (.Call (.Attribute o m apos) (e :: es) [] pos) (tMethG C m sp ta t) := by
  refine ⟨fun pins s σ H Q I h => ?_⟩
  refine meth_late (base_of hc) hs hn hl (thn (he.run pins s σ H _ I h) fun u s1 ⟨x, H1, I1, rx, a, dx, fs, ex, ea, l, q⟩ => ?_)
  subst ex
  obtain rfl : u = Value.ref a := rx
  refine getmeth_ok I1 ea c hm l ?_
  rw [List.all_cons, Bool.and_eq_true] at hs
  refine PySem.W.callWith_K (first := [.ref a]) (h₀ := X.base) I.ok.mod.kin hm.kp (thn (ha.run pos pins s1 σ H1 _ I1 q) fun us s2 ⟨vs, H2, I2, r, q2⟩ => ⟨I2.kIn, ?_⟩) (star_cons hs.1) (back_any hs.2)
  exact run_fnG (us := .ref a :: us) (vs := .ref a :: vs) F hr hgd hb I2 (.cons rfl r) q2
theorem pe_methG0 (he : PE X o ta) (c : L2.Cls X.K C) (hm : Meth X.K C m f) (F : FnG X.prog X.w X.K X.mg X.base k f fd ps sp) (hr : Room k X.A) (hgd : X.A.guards = some []) (hb : Binds X.K fd ps [])
    (hc : isCall o = false) (hl : (apos.endLine == pos.line) = true) : PE X (.Call (.Attribute o m apos) [] [] pos) (tMethG C m sp ta tNil) := by
  refine ⟨fun pins s σ H Q I h => ?_⟩
  refine meth_late (es := []) (base_of hc) rfl (by decide) hl (thn (he.run pins s σ H _ I h) fun u s1 ⟨x, H1, I1, rx, a, dx, fs, ex, ea, l, q⟩ => ?_)
  subst ex
  obtain rfl : u = Value.ref a := rx
  refine getmeth_ok I1 ea c hm l ?_
  exact PySem.W.callWith_K0 (first := [.ref a]) I1.kIn hm.kp (run_fnG (us := [.ref a]) (vs := [.ref a]) F hr hgd hb I1 (.cons rfl .nil) q)
end
/-! ### at PC's store -/
theorem kvr_lookup {W : Wd} {ι : List Addr} {H : Hp} {f : Str} {fs : List (Str × D)} {gs : List (Str × V)} (r : KVr W ι H fs gs) : (∀ d, fs.lookup f = some d → ∃ v, gs.lookup f = some v ∧ DV W ι H d v) ∧ (fs.lookup f = none → gs.lookup f = none) := by
  unfold KVr at r
  induction r with
  | nil => exact ⟨fun d h => (by cases h), fun _ => rfl⟩
  | @cons p q fs gs h r ih =>
    obtain ⟨a, d⟩ := p
    obtain ⟨b, v⟩ := q
    obtain ⟨e, hv⟩ := h
    have e' : a = b := e
    subst e'
    obtain ⟨q1, q2⟩ := ih
    by_cases hf : f = a
    · subst hf
      simp only [List.lookup, beq_self_eq_true]
      exact ⟨fun x h => (by cases h; exact ⟨v, rfl, hv⟩), fun h => (by cases h)⟩
    · have hb : (f == a) = false := beq_eq_false_iff_ne.mpr hf
      simp only [List.lookup, hb]
      exact ⟨q1, q2⟩
theorem kvr_put {W : Wd} {ι : List Addr} {H : Hp} {f : Str} {d : D} {v : V} (hv : DV W ι H d v) {fs : List (Str × D)} {gs : List (Str × V)} (r : KVr W ι H fs gs) : KVr W ι H (fldD f d fs) (putF f v gs) := by
  unfold KVr at r ⊢
  induction r with
  | nil => exact .cons ⟨rfl, hv⟩ .nil
  | @cons p q fs gs h r ih =>
    obtain ⟨a, x⟩ := p
    obtain ⟨b, y⟩ := q
    obtain ⟨e, hx⟩ := h
    have e' : a = b := e
    subst e'
    unfold fldD putF
    by_cases hf : a = f
    · rw [if_pos hf, if_pos hf]
      exact .cons ⟨rfl, hv⟩ r
    · rw [if_neg hf, if_neg hf]
      exact .cons ⟨rfl, hx⟩ ih
theorem kvr_len {W : Wd} {ι : List Addr} {H : Hp} {κ : Type} : ∀ {fs : List (κ × D)} {gs : List (κ × V)}, KVr W ι H fs gs → fs.length = gs.length := fun r => Paired.length r
section
variable {W : Wd} {C : Cal} {ι ι' ι1 : List Addr} {S S' S1 : Sto} {H H' H1 : Hp} {e : En} {σ : L2.St} {X : Cx} {o : Expr} {co : CE} {es : List Expr} {cs : CEs} {f m x : Str} {p pos apos : Pos}
/-- what is known of the classes' attributes -/
def AttOk (W : Wd) (K : PySem.W.Frag) (f : Str) : Prop := ∀ c, c < W.nc → L2.Cls K (W.ca c) ∧ NoAttr K (W.ca c) f
/-- an __init__ by its number, at one level less -/
def spI (W : Wd) (C : Cal) (f : Nat) : List V → Hp → VK → Prop := fun vs H Q => ∃ ι S ds d S', Rep W ι S H ∧ DXs W ι H ds vs ∧ C.ini f ds S = some (d, S') ∧ Gd W ι S H S' d Q
theorem made_rep {c : Nat} {a dx : Addr} (hc : c < W.nc) (R : Rep W ι S H) (ha : H a = none) (hd : H dx = none) (ne : dx ≠ a) : Rep W (ι ++ [a]) (S ++ [.ins c []]) (upd (upd H dx (.own a)) a (.ins (W.ca c) dx [])) ∧ Ext ι S H (ι ++ [a]) (S ++ [.ins c []]) (upd (upd H dx (.own a)) a (.ins (W.ca c) dx [])) := by
  obtain ⟨R1, E1⟩ := R.put hd (.own a)
  have ha1 : (upd H dx (.own a)) a = none := by rw [upd_ne (Ne.symm ne)]; exact ha
  obtain ⟨R2, E2⟩ := R1.alloc ha1 (u := .ins (W.ca c) dx []) (o := .ins c []) ⟨hc, dx, [], upd_same, .nil⟩
  exact ⟨R2, E1.trans R1 E2⟩
theorem ok_make {c id k : Nat} {f : Addr} {fd : FuncData} {ps : List Str} {ms : List (Str × Nat)} (hc : c < W.nc) (hP : C.P.cls[c]? = some ⟨some id, ms⟩) (M : Mk X.K (W.ca c) f) (F : FnG X.prog X.w X.K X.mg X.base k f fd ps (spI W C id)) (hr : Room (k + 1) X.A) (hgd : X.A.guards = some []) (hg : Gl X x) (hm : X.mg x = some (.ref (W.ca c))) (hb : Binds X.K fd ps [])
    (ha : PA X es (rdA W C cs)) (hs : es.all notStar = true) (h0 : es = [] → cs = .nil) (hdb : x ≠ "__debug__") : PE X (.Call (.Name x p) es [] pos) (rdE W C (.make c cs)) := by
  have fin : ∀ {ι : List Addr} {S S' : Sto} {H : Hp} {xs : List D} {vs : List V} {d : D} {Q : VK}, Rep W ι S H → DVs W ι H xs vs → bnd (C.ini id (.ref S.length :: xs) (S ++ [.ins c []])) (fun d S1 => (match d with
      | .non => some (.ref S.length, S1)
      | _ => none)) = some (d, S') → Gd W ι S H S' d Q → ∀ a dx, H a = none → H dx = none → dx ≠ a → spI W C id (.ref a :: vs) (upd (upd H dx (.own a)) a (.ins (W.ca c) dx [])) (fun v H2 => v = .non ∧ Q (.ref a) H2) := by
    intro ι S S' H xs vs d Q R hv ev g a dx na nd ne
    obtain ⟨R2, E2⟩ := made_rep hc R na nd ne
    obtain ⟨z, S1, e1, ev⟩ := bnd_some ev
    have hl : (ι ++ [a])[S.length]? = some a := by
      rw [← R.len, List.getElem?_append_right (Nat.le_refl _)]
      simp
    split at ev
    · cases ev
      refine ⟨ι ++ [a], S ++ [.ins c []], .ref S.length :: xs, .non, S', R2, ⟨.ref a, vs, rfl, .inl ⟨a, rfl, hl⟩, DXs.of (DVs.mono E2 R _ _ hv)⟩, e1, fun ι' H' v E' R' hv' => ⟨hv', ?_⟩⟩
      exact g ι' H' (.ref a) (E2.trans R2 E') R' ⟨a, rfl, E'.get hl⟩
    · cases ev
  cases es with
  | nil =>
    have e0 := h0 rfl
    subst e0
    refine (pe_makeG0 M F hr hgd hg hm hb (beq_eq_false_iff_ne.mpr hdb)).w fun σ H Q ⟨ι, S, e, d, S', R, Ve, ev, g⟩ => ?_
    simp only [evE, evEs, bnd, hP] at ev
    exact fin (xs := []) R rfl ev g
  | cons e0 es =>
    refine (pe_makeG M F hr hgd hg hm hb ha hs (beq_eq_false_iff_ne.mpr hdb)).w fun σ H Q ⟨ι, S, e, d, S', R, Ve, ev, g⟩ => ?_
    simp only [evE] at ev
    obtain ⟨xs, S1, e1, ev⟩ := bnd_some ev
    rw [hP] at ev
    exact rdA_then R Ve e1 fun ι1 H1 vs E1 R1 hv V1 => fin R1 hv ev (g.thru E1 R1)
/-- what is known of the classes' methods -/
def MthOk (W : Wd) (C : Cal) (X : Cx) : Prop := ∀ c m id, c < W.nc → (∃ K, C.P.cls[c]? = some K ∧ K.meths.lookup m = some id) → ∃ (f : Addr) (fd : FuncData) (ps : List Str) (k : Nat), L2.Cls X.K (W.ca c) ∧ Meth X.K (W.ca c) m f ∧ FnG X.prog X.w X.K X.mg X.base k f fd ps (spF W C id) ∧ Room k X.A ∧ Binds X.K fd ps []
theorem mth_of {x : D} {id : Nat} (h : mthOf C.P x m S = some id) : ∃ n c fs, x = .ref n ∧ S[n]? = some (.ins c fs) ∧ fs.lookup m = none ∧ ∃ K, C.P.cls[c]? = some K ∧ K.meths.lookup m = some id := by
  unfold mthOf at h
  split at h
  · rename_i n
    split at h
    · rename_i c fs hs
      split at h
      · cases h
      · rename_i hl
        split at h
        · rename_i K hK
          exact ⟨n, c, fs, rfl, hs, hl, K, hK, h⟩
        · cases h
    · cases h
  · cases h
theorem ok_imth (hM : MthOk W C X) (hgd : X.A.guards = some []) (ho : PE X o (rdE W C co)) (ha : PA X es (rdA W C cs)) (hs : es.all notStar = true) (hn : es.length < 29) (h0 : es = [] → cs = .nil) (hc : isCall o = false) (hl : (apos.endLine == pos.line) = true) (hP : ∀ c K, C.P.cls[c]? = some K → c < W.nc) :
    PE X (.Call (.Attribute o m apos) es [] pos) (rdE W C (.imth co m cs)) := by
  refine ⟨fun pins s σ H Q I h => ?_⟩
  obtain ⟨ι, S, e, d, S', R, Ve, ev, g⟩ := h
  simp only [evE] at ev
  obtain ⟨y, S1, e1, ev⟩ := bnd_some ev
  split at ev
  · rename_i id hid
    obtain ⟨n, c, fs, rfl, hsn, hlk, hK⟩ := mth_of hid
    obtain ⟨xs, S2, e2, ev⟩ := bnd_some ev
    have key : ∀ (hcn : c < W.nc) (t : TA), (∀ {ι1 : List Addr} {H1 : Hp} {Q' : List V → Hp → Prop}, Rep W ι1 S1 H1 → EnV W ι1 H1 e σ → (∀ ι2 H2 vs, Ext ι1 S1 H1 ι2 S2 H2 → Rep W ι2 S2 H2 → DVs W ι2 H2 xs vs → Q' vs H2) → t σ H1 Q') → tMethG (W.ca c) m (spF W C id) (rdE W C co) t σ H Q := by
      intro hcn t ht
      refine rdE_then R Ve e1 fun ι1 H1 v E1 R1 hv V1 => ?_
      obtain ⟨a, rfl, ha⟩ := hv
      obtain ⟨_, dx, gs, q, r⟩ := R1.ob n a _ ha hsn
      refine ⟨a, dx, gs, rfl, q, (kvr_lookup (f := m) r).2 hlk, ht R1 V1 fun ι2 H2 vs E2 R2 hvs => ?_⟩
      exact ⟨ι2, S2, .ref n :: xs, d, S', R2, ⟨.ref a, vs, rfl, .inl ⟨a, rfl, E2.get ha⟩, DXs.of hvs⟩, ev, (g.thru E1 R1).thru E2 R2⟩
    have hcn : c < W.nc := by
      obtain ⟨K, hK1, _⟩ := hK
      exact hP c K hK1
    obtain ⟨f, fd, ps, k, c1, c2, c3, c4, c5⟩ := hM c m id hcn hK
    cases es with
    | nil =>
      have z := h0 rfl
      subst z
      refine (pe_methG0 ho c1 c2 c3 c4 hgd c5 hc hl).run pins s σ H Q I (key hcn tNil fun R1 V1 k1 => ?_)
      simp only [evEs] at e2
      cases e2
      exact k1 _ _ [] .refl R1 rfl
    | cons a0 es => exact (pe_methG ho c1 c2 c3 c4 hgd c5 ha hs hn hc hl).run pins s σ H Q I (key hcn _ fun R1 V1 k1 => rdA_then R1 V1 e2 fun ι2 H2 vs E2 R2 hv V2 => k1 ι2 H2 vs E2 R2 hv)
  · cases ev
end
end PC
end
section
set_option Elab.async false
set_option linter.all false
set_option maxRecDepth 100000
set_option maxHeartbeats 4000000
/-! PC: own exceptions' classes over any base whose maker is BaseException's (ValueError, KeyError): the call of the class, the base's __init__, the first field. -/
namespace PySem
namespace XG
open Builtin Builtin.ObjectAttr PySem.W PySem.Calls PyProof.Rows PySem.HandSPX
/-- the maker nw, for a class with bm behind it -/
structure XNew (nw : String) (bm : List Value) : Prop where
  f : ∃ (B ini : String) (bB : List Value), ExcBaseFacts B nw ini bB ∧ bm.contains (.type B) = true
  noA : bm.contains (.type "AttributeError") = false
  noN : bm.contains (.type "NameError") = false
/-- the base's __init__ -/
structure XIni (ini : String) (bm : List Value) : Prop where
  f : ∃ c : String, bm.contains (.type c) = true ∧ splitId ini = some (c, "__init__") ∧ Manifest.signature? ini = some ⟨.positional, "*", c, .self, [⟨"args", .varPos, false⟩]⟩ ∧ (c != "*") = true
  plain : plainId ini = true
  entry : entryFor table ini = some Builtin.«BaseException.__init__»
  kind : builtinKind ini = some .slot
/-- a store in such an object goes the usual way -/
structure XSet (mro : List Value) : Prop where
  ne : mro.isEmpty = false
  ob : mro.contains (.type "object") = true
  pass : ∀ self, refuseLoop self "__setattr__" mro = pure ()
section
variable {prog : Program} {w : World} {A : Around} {E : Value → Shared → Prop} {R : Result → Shared → Prop} {hp : Heap} {gs : Array GenState} {dr : Drawn} {tk : Nat} {ost : OsState}
variable {nm qn : Str} {C N : Addr} {bs bm bB : List Value} {hd : Bool} {sn : List Str} {su : List Value} {ab : Bool} {co : Option Bool} {dl : Option Addr} {k0 k1 k2 k3 k5 : Option Value} {B nw ini : String} {us : List Value} {kw : List (Str × Value)}
theorem chk (F : XNew nw bm) {M : Model} {Q : Unit → Shared → Prop}
    (hC : hp.get? C = some (excClassObj nm qn C N bs bm hd sn su ab co dl k0 k1 k2 k3 k5 nw)) (q : Q () ⟨hp, gs, dr, tk, ost⟩) : wpAny M A (checkBuiltinCall nw ⟨.ref C :: us, kw⟩) Q E ⟨hp, gs, dr, tk, ost⟩ := by
  obtain ⟨⟨B, ini, bB, F, hb⟩, _, _⟩ := F
  have hB : (Value.ref C :: bm).contains (.type B) = true := by
    rw [List.contains_cons, hb, Bool.or_true]
  have st := F.noStar
  simp only [checkBuiltinCall, F.newKind, F.newSplit, F.newRow]
  repeat (first
    | refine wpAny_loadPart_at hC ?_
    | (refine wpAny_isSubtype_exc hC ?_; rw [hB])
    | refine wpAny_staticBase_exc hC ?_
    | refine wpAny_madeBy_exc hC ?_
    | simp only [bne_self_eq_false, Bool.false_eq_true, if_false]
    | wp_step)
  exact q
theorem mk (F : XNew nw bm) (hC : hp.get? C = some (excClassObj nm qn C N bs bm hd sn su ab co dl k0 k1 k2 k3 k5 nw)) (few : us.length ≤ sizeLine)
    (q : R (.ok (.ret (.ref (hp.objs.size + 1)))) ⟨(hp.push (kdv_tup us)).push (excO C hp.objs.size), gs, dr, tk, ost⟩) : codeAny (model prog w) A (.builtin nw ⟨.ref C :: us, kw⟩) R ⟨hp, gs, dr, tk, ost⟩ := by
  obtain ⟨⟨B, ini, bB, F, hb⟩, nA, nN⟩ := F
  have en := F.ends
  have hB : (Value.ref C :: bm).contains (.type B) = true := by
    rw [List.contains_cons, hb, Bool.or_true]
  have hA : (Value.ref C :: bm).contains (.type "AttributeError") = false := by
    rw [List.contains_cons, nA]
    rfl
  have hN : (Value.ref C :: bm).contains (.type "NameError") = false := by
    rw [List.contains_cons, nN]
    rfl
  refine codeAny_builtinAt F.entry ?_
  unfold Builtin.«BaseException.__new__»
  refine wpAt_bind ?_
  show wpAt _ _ _ (stack >>= _) _ _ _
  refine wpAt_bind (wpAt_stack fun _ _ => wpAt_of_wpAny ?_)
  wp_walk
  refine wpAt_of_wpAny ?_
  rw [F.owner]
  repeat (first
    | with_reducible refine wpAny_madeHere_exc F.canon hC ?_
    | with_reducible refine wpAny_loadPart_at hC ?_
    | (with_reducible refine wpAny_isSubtype_exc hC ?_; first
      | rw [hB]
      | rw [hA]
      | rw [hN])
    | wp_step)
  show R _ _
  rw [Heap.size_push]
  exact q
theorem tcall {fI : Addr} {Q : Fin → Shared → Prop} (F : XNew nw bm) (hC : hp.get? C = some (excClassObj nm qn C N bs bm hd sn su ab co dl k0 k1 k2 k3 k5 nw)) (few : us.length ≤ sizeLine)
    (li : Looks (model prog w) hp (typeLookup (.ref C) "__init__") (some (.ref fI))) (lb : ∀ self, Looks (model prog w) hp (bindSpecial (.ref fI) self) (.ref fI, [self]))
    (q : codeAny (model prog w) A (.call (.ref fI) ⟨.ref (hp.objs.size + 1) :: us, kw⟩) (fun r s' => match r with
      | .ok (.ret v) => v = .none ∧ Q (.done (.ret (.ref (hp.objs.size + 1)))) s'
      | .ok _ => False
      | .error e => E e s') ⟨(hp.push (kdv_tup us)).push (excO C hp.objs.size), gs, dr, tk, ost⟩) :
    wpAny (model prog w) A (Builtin.«type.__call__» ⟨.ref C :: us, kw⟩) Q E ⟨hp, gs, dr, tk, ost⟩ := by
  repeat (first
    | with_reducible refine wpAny_loadPart_at hC ?_
    | with_reducible refine wpAny_madeBy_exc hC ?_
    | wp_step)
  refine codeAny_call_builtin_code (Code.quiet_builtin _ (by obtain ⟨⟨B, ini, bB, F, _⟩, _, _⟩ := F; exact F.quiet)) (chk F hC ?_)
  refine mk F hC few ?_
  show wpAny _ _ _ _ _ _
  have up : ∀ b o, hp.get? b = some o → ((hp.push (kdv_tup us)).push (excO C hp.objs.size)).get? b = some o := fun b o e =>
    Heap.get?_push_of_some _ (Heap.get?_push_of_some _ e)
  have hC1 := up _ _ hC
  have at_ : ((hp.push (kdv_tup us)).push (excO C hp.objs.size)).get? (hp.objs.size + 1) = some (excO C hp.objs.size) := by heap_get
  have cc : (Value.ref C :: bm).contains (.ref C) = true := by simp
  have l1 := li.keeps up
  have l2 := (lb (.ref (hp.objs.size + 1))).keeps up
  unfold isInstance
  repeat (first
    | with_reducible refine wpAny_loadPart_at at_ ?_
    | (with_reducible refine wpAny_isSubtype_exc hC1 ?_; rw [cc])
    | wp_step)
  show wpAny _ _ (typeLookup (.ref C) _) _ _ _
  refine l1.at ?_
  refine wpAny_holding (wpAny_bind (l2.at ?_))
  refine wpAny_bind (wpAny_call (codeAny_mono q fun r s' z => ?_))
  rcases r with e | (v | _ | _ | _) <;> first
    | exact z
    | exact z.elim
    | skip
  obtain ⟨rfl, z⟩ := z
  first
    | exact wpAny_pure (wpAny_pure z)
    | (wp_walk; exact z)
theorem xcall {fI : Addr} (F : XNew nw bm) (hC : hp.get? C = some (excClassObj nm qn C N bs bm hd sn su ab co dl k0 k1 k2 k3 k5 nw)) (few : us.length ≤ sizeLine)
    (li : Looks (model prog w) hp (typeLookup (.ref C) "__init__") (some (.ref fI))) (lb : ∀ self, Looks (model prog w) hp (bindSpecial (.ref fI) self) (.ref fI, [self]))
    (q : codeAny (model prog w) (A.under (.builtin "type.__call__" ⟨.ref C :: us, kw⟩)) (.call (.ref fI) ⟨.ref (hp.objs.size + 1) :: us, kw⟩) (InitBack (hp.objs.size + 1) R) ⟨(hp.push (kdv_tup us)).push (excO C hp.objs.size), gs, dr, tk, ost⟩) :
    codeAny (model prog w) A (.call (.ref C) ⟨us, kw⟩) R ⟨hp, gs, dr, tk, ost⟩ := by
  have t1 := tc_lookup
  have t2 := tc_bind (.ref C)
  have ty : (⟨hp, gs, dr, tk, ost⟩ : Shared).TypeIs (.ref C) "type" := ⟨_, hC, rfl⟩
  refine codeAny_of_tree ?_
  show wpAny _ _ (callAny (.ref C) _) _ _ _
  repeat (any_goals (first
    | assumption
    | with_reducible refine wpAny_loadPart_at hC ?_
    | wp_step))
  refine ⟨rfl, ?_⟩
  refine codeAny_call_builtin_at (Code.quiet_builtin _ (by decide +kernel)) entry_typeCall (wpAny_check_type_call_sub hC (tcall F hC few li lb ?_))
  refine codeAny_mono q fun r s' z => ?_
  rcases r with e | (v | _ | _ | _) <;> exact z
/-- the base's __init__ on an object of the class: its args are laid anew -/
theorem init_any (F : XIni ini bm) {e t0 : Addr} (hC : hp.get? C = some (excClassObj nm qn C N bs bm hd sn su ab co dl k0 k1 k2 k3 k5 nw)) (he : hp.get? e = some (excO C t0)) (few : us.length ≤ sizeLine)
    (q : ∀ h' t1, (∀ b o, b ≠ e → hp.get? b = some o → h'.get? b = some o) → h'.get? e = some (excO C t1) → R (.ok (.ret .none)) ⟨h', gs, dr, tk, ost⟩) :
    codeAny (model prog w) A (.call (.builtin ini) ⟨.ref e :: us, []⟩) R ⟨hp, gs, dr, tk, ost⟩ := by
  obtain ⟨⟨c, hc, sp, row, st⟩, pl, en, kd⟩ := F
  have hB : (Value.ref C :: bm).contains (.type c) = true := by
    rw [List.contains_cons, hc, Bool.or_true]
  have chk0 : ∀ {A : Around} {Q : Unit → Shared → Prop} {E : Value → Shared → Prop}, Q () ⟨hp, gs, dr, tk, ost⟩ → wpAny (model prog w) A (checkBuiltinCall ini ⟨.ref e :: us, []⟩) Q E ⟨hp, gs, dr, tk, ost⟩ := by
    intro A Q E q0
    simp only [checkBuiltinCall, kd, sp, row]
    repeat (first
      | with_reducible refine wpAny_loadPart_at he ?_
      | with_reducible refine wpAny_loadPart_at hC ?_
      | (with_reducible refine wpAny_isSubtype_exc hC ?_; rw [hB])
      | wp_step)
    refine wpAny_onRaise ?_
    rw [show ∀ (a b : String) (n : Nat), Bind.check ⟨.positional, "*", c, .self, [⟨"args", .varPos, false⟩]⟩ a b n (List.map (fun x => x.fst) ({ pos := Value.ref e :: us } : Args).kw) = pure () from
      fun a b n => check_star_args _ _ _ _ _ _]
    exact wpAny_pure q0
  refine codeAny_call_builtin pl en (chk0 ?_)
  wp_walk
  refine q _ hp.objs.size (fun b o hb ho => ?_) ?_
  · rw [Heap.get?_update_other _ _ (Ne.symm hb)]
    exact Heap.get?_push_of_some _ ho
  · rw [Heap.get?_update_self _ (Heap.get?_push_of_some _ he) rfl]
    rfl
/-- the first field of such an object -/
theorem osa_any {K : W.Frag} {name : Str} {tn : Tok} {v : Value} {x : Addr} {fv : Array Value} {cd : ClassData}
    (X : K.In hp) (hx : hp.get? x = some { cls := .ref C, data := .fields fv }) (hcd : W.clsIn K C = some cd) (G : XSet cd.mro) (hh : cd.hasDict = true) (ha : W.findIn K (.ref C) name = some none)
    (q : ∀ h' tk' dx, (∀ b o, b ≠ x → hp.get? b = some o → h'.get? b = some o) → hp.objs.size ≤ dx → dx ≠ x → h'.get? x = some { cls := .ref C, dict := some dx, data := .fields fv } →
      h'.Ns1 dx (fun y => if y = name then some v else none) → R (.ok (.ret .none)) ⟨h', gs, dr, tk', ost⟩) :
    codeAny (model prog w) A (.call (.builtin "object.__setattr__") ⟨[.ref x, .str name tn, v], []⟩) R ⟨hp, gs, dr, tk, ost⟩ := by
  have I : W.InstAt hp x { cls := .ref C, data := .fields fv } C none := ⟨hx, rfl, rfl, trivial⟩
  have SF := F.store_object
  have far : x ≠ hp.objs.size := Nat.ne_of_lt (Heap.lt_size hx)
  have sub : W.Looks (model prog w) hp (isInstance (.ref x) (.type "object")) true := I.type.andThen (W.looks_mroIn X (by
    unfold W.mroIn
    rw [hcd, Option.bind_some, if_neg (by rw [G.ne]; decide), G.ob]))
  refine codeAny_call_builtin SF.slot.plain SF.entry (@W.check_slot (model prog w) _ _ ⟨hp, gs, dr, tk, ost⟩ "object.__setattr__" "object" "__setattr__" (.ref x) [.str name tn, v] [] _ SF.kind SF.split sub (SF.args (.ref x) (.str name tn) v) ?_)
  have L1 : W.Looks (model prog w) hp (mroOf (.ref C)) cd.mro := (W.looks_clsIn X hcd).andThen .now
  have L2 : W.Looks (model prog w) hp (storeTaker? none) none := .now
  have L3 : W.Looks (model prog w) hp (classData C) cd := W.looks_clsIn X hcd
  rw [W.osa_eq, refuse_eq]
  refine wpAny_bind (wpAny_bind (I.type.at (wpAny_bind (L1.at ?_))))
  rw [G.pass]
  refine wpAny_pure (wpAny_bind (I.type.at (wpAny_bind ((W.looks_findIn X ha).at (wpAny_bind (L2.at ?_))))))
  show wpAny _ _ (storeInOwnDict (.ref x) (.ref C) (.str name tn) name v false) _ _ _
  obtain ⟨n0, b0, mro, ns, q0, h0, s0, s1, a0, c0, d0⟩ := cd
  dsimp only at hh
  subst hh
  unfold storeInOwnDict ownDictForStores
  repeat (first
    | with_reducible refine store_in_new ?_ ?_
    | with_reducible refine wpAny_loadPart_at hx ?_
    | with_reducible refine L3.at ?_
    | wp_step)
  · exact ⟨_, #[], _, (Heap.get?_update_ne _ _ _ _ far.symm).trans (Heap.get?_push_at rfl rfl), rfl, fun e he => absurd he (by simp), fun _ => rfl⟩
  · intro h' tk' hn' hs
    have hx1 : (hp.push { cls := .type "dict", data := .dict #[] }).get? x = some { cls := .ref C, data := .fields fv } := Heap.get?_push_of_some _ hx
    refine q h' tk' hp.objs.size (fun b o hb ho => ?_) (Nat.le_refl _) far.symm ?_ hn'
    · exact (hs.2 b (Nat.ne_of_lt (Heap.lt_size ho))).trans ((Heap.get?_update_ne _ _ _ _ hb).trans (Heap.get?_push_of_some _ ho))
    · exact (hs.2 x far).trans (Heap.get?_update_self _ hx1 rfl)
end
/-! ### the two bases that the text has -/
abbrev keTail : List Value := [.type "KeyError", .type "LookupError", .type "Exception", .type "BaseException", .type "object"]
theorem new_VE {bm : List Value} (h : refsVE bm = true) : XNew "ValueError.__new__" bm :=
  ⟨⟨"ValueError", "ValueError.__init__", veTail, F.excBase_ValueError, (refsVE_contains _ _ h).trans (by decide +kernel)⟩, (refsVE_contains _ _ h).trans (by decide +kernel), (refsVE_contains _ _ h).trans (by decide +kernel)⟩
theorem set_VE {C : Addr} {bm : List Value} (h : refsVE bm = true) : XSet (.ref C :: bm) :=
  ⟨rfl, (refsVE_contains "object" (.ref C :: bm) h).trans (by decide +kernel), fun self => refsVE_pass self (.ref C :: bm) h⟩
theorem ini_VE {bm : List Value} (h : refsVE bm = true) : XIni "ValueError.__init__" bm :=
  ⟨⟨"ValueError", (refsVE_contains _ _ h).trans (by decide +kernel), F.excCall_ValueError.initSplit, F.excCall_ValueError.initRow, F.excCall_ValueError.noStar⟩, F.excCall_ValueError.init.plain, F.excCall_ValueError.initEntry, F.excCall_ValueError.initKind⟩
theorem new_KE : XNew "LookupError.__new__" keTail :=
  ⟨⟨"LookupError", "LookupError.__init__", _, F.excBase_LookupError, by decide +kernel⟩, by decide +kernel, by decide +kernel⟩
theorem pass_KE (self : Value) : refuseLoop self "__setattr__" keTail = pure () := by kernel_rfl
theorem set_KE {C : Addr} : XSet (.ref C :: keTail) :=
  ⟨rfl, by rw [List.contains_cons]; exact (show (_ || keTail.contains (.type "object")) = true by rw [show keTail.contains (.type "object") = true by decide +kernel, Bool.or_true]), fun self => by rw [refuseLoop_ref]; exact pass_KE self⟩
theorem ini_KE : XIni "KeyError.__init__" keTail :=
  ⟨⟨"KeyError", by decide +kernel, by kernel_rfl, by kernel_rfl, by decide +kernel⟩, by decide +kernel, entryFor_alias (id' := "BaseException.__init__") (by rw [fastTable_eq_tree]; kernel_rfl) (by first | rfl | decide +kernel) (by decide +kernel) (by rw [fastTable_eq_tree]; kernel_rfl), by kernel_rfl⟩
end XG
end PySem
end
section
set_option Elab.async false
set_option linter.all false
set_option maxRecDepth 100000
set_option maxHeartbeats 4000000
/-! PC: exceptions of the text's own as values: their making, by place and by name. -/
namespace PC
open PySem PySem.Spec PyProof.Rows L2
section
variable {X : Cx} {ini : String} {C fI : Addr} {k : Nat} {fd : FuncData} {ps : List Str} {sp : List V → Hp → VK → Prop} {x y : Str} {p pos kp : Pos} {e : Expr} {es : List Expr} {t : TA}
/-- an own class over a base whose __init__ is ini -/
structure OexG (K : PySem.W.Frag) (ini : String) (C : Addr) : Prop where
  cls : ∃ nm q N bs bm sn sub ab col dd k0 k1 k2 k3 k5 nw, K.lookup C = some (excClassObj nm q C N bs bm true sn sub ab col dd k0 k1 k2 k3 k5 nw) ∧ PySem.XG.XNew nw bm ∧ PySem.XG.XSet (.ref C :: bm) ∧ PySem.XG.XIni ini bm
  sa : PySem.W.findIn K (.ref C) "__setattr__" = some (some (.builtin "object.__setattr__"))
  exC : PySem.W.subIn K (.ref C) (.type "BaseException") = some true
  tyC : PySem.W.typeIn K (.ref C) = some (.type "type")
  kC : PySem.W.keepIn K (.ref C) = true
/-- behind the __init__: the object and its dict are frozen -/
def MkdE (C a : Addr) (Q : VK) : VK := fun v H2 => v = .non ∧ ∃ (d : Addr) (fs : List (Str × V)), H2 a = some (exo a C (some d)) ∧ H2 d = some (exd d fs) ∧ d ≠ a ∧ ∀ oe od, Q (.ref a) (upd (upd H2 d (.frz od (exd d fs))) a (.frz oe (exo a C (some d))))
/-- C(..) of an exception's class, its __init__ keeping sp -/
def tMkE (C : Addr) (sp : List V → Hp → VK → Prop) (t : TA) : TE := fun σ H Q => t σ H fun vs H1 => vs.length ≤ 1000 ∧ ∀ a, H1 a = none → sp (.ref a :: vs) (upd H1 a (exo a C none)) (MkdE C a Q)
theorem run_makeE {pins : List (Addr × Obj)} {σ : L2.St} {H : Hp} {s : Shared} {Q : VK} {us zs : List Value} {kw : List (Str × Value)} {vs : List V} (T : OexG X.K ini C) (iC : PySem.W.findIn X.K (.ref C) "__init__" = some (some (.ref fI))) (tI : PySem.W.typeIn X.K (.ref fI) = some (.type "function"))
    (F1 : FnG X.prog X.w X.K X.mg X.base k fI fd ps sp) (hr : Room (k + 1) X.A) (hgd : X.A.guards = some []) (hb : ∀ (s : Shared) (a : Addr), X.K.In s.heap → BindsTo s fd ⟨.ref a :: us, kw⟩ (ps.zip (.ref a :: zs))) (I : L2.Inv X pins σ H s) (r1 : Vals vs zs) (hus : us.length ≤ sizeLine)
    (h : ∀ a, H a = none → sp (.ref a :: vs) (upd H a (exo a C none)) (MkdE C a Q)) :
    wpAny (model X.prog X.w) X.A (PySem.call (.ref C) us kw) (EP X pins σ Q) X.xe s := by
  obtain ⟨nm, q, N, bs, bm, sn, sub, ab, col, dd, k0, k1, k2, k3, k5, nw, hC, hbm, _, _⟩ := T.cls
  obtain ⟨hp, g, dr, tk, os⟩ := s
  have hsz : hp.objs.size ≤ hp.objs.size + 1 := Nat.le_succ _
  have hn : H (hp.objs.size + 1) = none := I.hok.fresh hsz
  have hq := h (hp.objs.size + 1) hn
  have kk : ∀ b o, hp.get? b = some o → ((hp.push (PySem.W.kdv_tup us)).push (PySem.HandSPX.excO C hp.objs.size)).get? b = some o := fun b o e => Heap.get?_push_of_some _ (Heap.get?_push_of_some _ e)
  have hget : ((hp.push (PySem.W.kdv_tup us)).push (PySem.HandSPX.excO C hp.objs.size)).get? (hp.objs.size + 1) = some (PySem.HandSPX.excO C hp.objs.size) := by heap_get
  have I2 : Inv X pins σ (upd H (hp.objs.size + 1) (exo (hp.objs.size + 1) C none)) ⟨(hp.push (PySem.W.kdv_tup us)).push (PySem.HandSPX.excO C hp.objs.size), g, dr, tk, os⟩ :=
    I.laid (t' := tk) (a := hp.objs.size + 1) (o := exo (hp.objs.size + 1) C none) (h' := (hp.push (PySem.W.kdv_tup us)).push (PySem.HandSPX.excO C hp.objs.size)) kk hsz (exo_ok hget)
  have r2 : Vals (V.ref (hp.objs.size + 1) :: vs) (Value.ref (hp.objs.size + 1) :: zs) := .cons rfl r1
  refine wpAny_call (PySem.XG.xcall hbm (I.kIn _ _ hC) hus (PySem.W.looks_findIn I.kIn iC) (fun self => PySem.W.bind_fn I.kIn self tI)
    (codeAny_mono (F1.run _ X.stack _ _ ⟨Value.ref (hp.objs.size + 1) :: us, kw⟩ (Value.ref (hp.objs.size + 1) :: zs) _ _ (hr.make C us kw) (make_guards hgd) (I2.env0.make C us kw) (hb _ _ I2.kIn) r2 hq) fun r s' hq' => ?_))
  cases r with
  | error er => exact False.elim hq'
  | ok fl =>
    cases fl with
    | ret u =>
      obtain ⟨v, H', I3, rv, ev, d, fs, ea, ed, ne, q3⟩ := I2.after hq'
      subst ev
      obtain ⟨od, I4⟩ := I3.lock ed trivial
      obtain ⟨oe, I5⟩ := I4.lock (d := hp.objs.size + 1) (u := exo (hp.objs.size + 1) C (some d)) (by rw [upd_ne (Ne.symm ne)]; exact ea) trivial
      exact ⟨rv, ⟨V.ref (hp.objs.size + 1), _, I5, rfl, q3 oe od⟩⟩
    | next => exact False.elim hq'
    | brk => exact False.elim hq'
    | cont => exact False.elim hq'
theorem pe_makeE (T : OexG X.K ini C) (iC : PySem.W.findIn X.K (.ref C) "__init__" = some (some (.ref fI))) (tI : PySem.W.typeIn X.K (.ref fI) = some (.type "function"))
    (F1 : FnG X.prog X.w X.K X.mg X.base k fI fd ps sp) (hr : Room (k + 1) X.A) (hgd : X.A.guards = some []) (hg : Gl X x) (hm : X.mg x = some (.ref C)) (hb : Binds X.K fd ps [])
    (ha : PA X (e :: es) t) (hs : (e :: es).all notStar = true) (hdb : (x == ("__debug__" : Str)) = false) : PE X (.Call (.Name x p) (e :: es) [] pos) (tMkE C sp t) := by
  refine ⟨fun pins s σ H Q I h => wpAny_Call_Name_kw (ld_glob I hg hm ?_ hdb)⟩
  rw [List.all_cons, Bool.and_eq_true] at hs
  refine PySem.W.callWith_K (h₀ := X.base) I.ok.mod.kin T.kC (thn (ha.run pos pins s σ H _ I h) fun us s1 ⟨vs, H1, I1, r, hl, q⟩ => ⟨I1.kIn, ?_⟩) (star_cons hs.1) (back_any hs.2)
  have hlen : us.length + 1 = ps.length := by
    have q1 := F1.len _ _ _ (q s1.heap.objs.size (I1.hok.fresh (Nat.le_refl _)))
    rw [List.length_cons, r.length] at q1
    exact q1
  refine run_makeE (us := us) (zs := us) (kw := []) T iC tI F1 hr hgd (fun s a k => ?_) I1 r (by rw [← r.length, sizeLine_eq]; omega) q
  have b := hb s (.ref a :: us) k (by rw [List.append_nil]; exact hlen)
  rw [List.append_nil] at b
  exact b
/-- C(y = e) -/
theorem pe_makeEk {te : TE} (T : OexG X.K ini C) (iC : PySem.W.findIn X.K (.ref C) "__init__" = some (some (.ref fI))) (tI : PySem.W.typeIn X.K (.ref fI) = some (.type "function"))
    (F1 : FnG X.prog X.w X.K X.mg X.base k fI fd ps sp) (hr : Room (k + 1) X.A) (hgd : X.A.guards = some []) (hg : Gl X x) (hm : X.mg x = some (.ref C)) (hp : ps.length = 2) (hb : ∀ (s : Shared) (u : Value) (a : Addr), X.K.In s.heap → BindsTo s fd ⟨[.ref a], [(y, u)]⟩ (ps.zip [.ref a, u]))
    (ha : PE X e te) (hdb : (x == ("__debug__" : Str)) = false) : PE X (.Call (.Name x p) [] [⟨some y, e, kp⟩] pos) (tMkE C sp (tCons te tNil)) := by
  refine ⟨fun pins s σ H Q I h => wpAny_Call_Name_kw (ld_glob I hg hm ?_ hdb)⟩
  refine PySem.W.callWith_KW0 (h₀ := X.base) I.ok.mod.kin T.kC rfl ?_ rfl
  refine thn ((pk_cons (nm := some y) (kpos := kp) ha pk_nil).run pos pins s σ H _ I h) fun us s1 ⟨vs, H1, I1, r, hl, q⟩ => ⟨I1.kIn, ?_⟩
  have hl1 : us.length = 1 := by
    have q1 := F1.len _ _ _ (q s1.heap.objs.size (I1.hok.fresh (Nat.le_refl _)))
    rw [List.length_cons, r.length, hp] at q1
    omega
  obtain ⟨u, rfl⟩ : ∃ u, us = [u] := List.length_eq_one_iff.mp hl1
  exact run_makeE (us := []) (zs := [u]) (kw := [(y, u)]) T iC tI F1 hr hgd (fun s a k => hb s u a k) I1 r (Nat.zero_le _) q
end
end PC
end
section
set_option Elab.async false
set_option linter.all false
set_option maxRecDepth 100000
set_option maxHeartbeats 4000000
/-! PC: the __init__ of an exception's class: its base's __init__, its one field. -/
namespace PC
open PySem PySem.Spec PyProof.Rows L2
/-- an own class whose __init__ is ini -/
structure OInit (K : PySem.W.Frag) (ini : String) (B : Addr) : Prop where
  ga : PySem.W.specialIn K (.ref B) "__getattribute__" = some (some (.builtin "type.__getattribute__"))
  rd : PySem.W.readsIn K B (.type "type") = true
  at_ : PySem.W.findCls K (.ref B) (.type "type") "__init__" = some (.val (.builtin ini))
  hd : PySem.W.handedIn (.builtin ini) = true
section
variable {X : Cx} {pins : List (Addr × Obj)} {σ : L2.St} {H : Hp} {s : Shared} {ini : String} {a C dx : Addr} {f : Str} {y : V} {u : Value} {fs : List (Str × V)} {E : Value → Shared → Prop} {A : Around}
/-- self.f = y, the first one -/
theorem ogt_new {Q : Unit → Shared → Prop} (T : OexG X.K ini C) (I : L2.Inv X pins σ H s) (e : H a = some (exo a C none)) (hno : PySem.W.findIn X.K (.ref C) f = some none) (ry : RelV y u)
    (h : ∀ dx s', H dx = none → dx ≠ a → L2.Inv X pins σ (upd (upd H dx (exd dx [(f, y)])) a (exo a C (some dx))) s' → Q () s') : wpAny (model X.prog X.w) A (setAttr (.ref a) f u) Q E s := by
  obtain ⟨nm, q, N, bs, bm, sn, sub, ab, col, dd, k0, k1, k2, k3, k5, nw, hC, hbm, hst, hin⟩ := T.cls
  have hcl : PySem.W.clsIn X.K C = some { name := nm, bases := bs, mro := .ref C :: bm, ns := N, qualname := q, hasDict := true, slotNames := sn, subclasses := sub, abstract := ab, collection := col, hasDel := false } := by
    unfold PySem.W.clsIn
    rw [hC] <;> rfl
  obtain ⟨t1, ho⟩ := exo_at I.hok e
  obtain ⟨hp, g, d, t, os⟩ := s
  refine PySem.W.set_plain I.kIn (ox := { cls := .ref C, dict := none, data := .fields #[.ref t1, .none, .none, .none, .bool false, .none] }) (od := none) ⟨ho, rfl, rfl, trivial⟩ T.sa ?_
  refine PySem.XG.osa_any I.kIn ho hcl hst rfl hno (fun h' tk' dx k dn dne hx hn => ?_)
  have hnd : H dx = none := I.hok.fresh dn
  have nd : ∀ {b : Addr} {o : Obj}, hp.get? b = some o → b ≠ dx := fun {b o} q => Nat.ne_of_lt (Nat.lt_of_lt_of_le (Heap.lt_size q) dn)
  have na : ∀ {b : Addr}, H b = none → b ≠ a := fun {b} n z => by
    rw [z, e] at n
    cases n
  have Un1 : Un X.fs [] H (upd (upd H dx (exd dx [(f, y)])) a (exo a C (some dx))) hp h' := {
    keep := fun b o q n _ _ => k b o (na n) q
    slot := fun b o q n _ _ => ⟨o.slots, k b o (na n) q⟩
    free := fun b o q n _ => by rw [upd_ne (na n), upd_ne (nd q)]; exact n
    there := fun b o q _ => by
      by_cases hb : b = a
      · exact ⟨_, by rw [hb]; exact hx⟩
      · exact ⟨o, k b o hb q⟩
    tups := fun b xs q => by rw [upd_ne (at_ne e q exo_tup), upd_ne (ne_of_none q hnd)]; exact q
    frzs := fun b o v q => by rw [upd_ne (at_ne e q exo_frz), upd_ne (ne_of_none q hnd)]; exact q
    tbls := fun b ps q => ⟨#[], by rw [upd_ne (at_ne e q exo_tbl), upd_ne (ne_of_none q hnd), q]; simp⟩ }
  refine h dx _ hnd dne (I.un (t' := tk') Un1 fun b o q => ?_)
  by_cases hb : b = a
  · subst hb
    rw [upd_same] at q
    cases q
    exact exo_ok hx
  · rw [upd_ne hb] at q
    by_cases hd : b = dx
    · subst hd
      rw [upd_same] at q
      cases q
      exact exd_ok hn (relO_put (fs := []) ry fun g => True.intro)
    · rw [upd_ne hd] at q
      exact (I.hok b o q).stay (fun c v hc z => k c v (by
          rcases hc with hc | hc
          · rw [hc]
            exact hb
          · exact at_ne e hc exo_own) z)
        (fun c hc => by rw [upd_ne (at_ne e hc exo_own), upd_ne (ne_of_none hc hnd)]; exact hc) (fun c xs hc => by rw [upd_ne (at_ne e hc exo_tup), upd_ne (ne_of_none hc hnd)]; exact hc)
/-- the base's __init__ on self: nothing of it is told -/
theorem ogi_ok {us : List Value} {Q : Value → Shared → Prop} (T : OexG X.K ini C) (I : L2.Inv X pins σ H s) (e : H a = some (exo a C none)) (hl : us.length ≤ sizeLine) (h : ∀ s', L2.Inv X pins σ H s' → Q .none s') :
    wpAny (model X.prog X.w) A (PySem.call (.builtin ini) (.ref a :: us)) Q E s := by
  obtain ⟨nm, q, N, bs, bm, sn, sub, ab, col, dd, k0, k1, k2, k3, k5, nw, hC, hbm, hst, hin⟩ := T.cls
  obtain ⟨t1, ho⟩ := exo_at I.hok e
  obtain ⟨hp, g, d, t, os⟩ := s
  refine wpAny_call (PySem.XG.init_any hin (I.kIn _ _ hC) ho hl fun h' t2 k hx => ?_)
  have J := I.write (t' := t) (x := a) (e := a) (o := exo a C none) (by rw [e]; exact True.intro) (.inl rfl) k ⟨_, hx⟩ (exo_ok hx)
  have eu : upd H a (exo a C none) = H := by
    funext b
    by_cases hb : b = a
    · rw [hb, upd_same, e]
    · rw [upd_ne hb]
  rw [eu] at J
  exact h _ J
end
/-- the base's __init__(self, ..) -/
def tGeI (K : PySem.W.Frag) (ini : String) (ta : TA) : TE := fun σ H Q => ta σ H fun vs H1 => ∃ (a C : Addr) (ws : List V), vs = .ref a :: ws ∧ ws.length ≤ 1000 ∧ OexG K ini C ∧ H1 a = some (exo a C none) ∧ Q .non H1
/-- self.f = e, the first one -/
def tOsg (K : PySem.W.Frag) (ini : String) (f : Str) (to te : TE) : TS := fun D σ H => te σ H fun y H1 => to σ H1 fun x H2 => ∃ a C : Addr, x = .ref a ∧ OexG K ini C ∧ PySem.W.findIn K (.ref C) f = some none ∧
  H2 a = some (exo a C none) ∧ ∀ dx, H2 dx = none → dx ≠ a → D.nx σ (upd (upd H2 dx (exd dx [(f, y)])) a (exo a C (some dx)))
section
variable {X : Cx} {ini : String} {B C : Addr} {x f : Str} {p1 p2 p p' pos pos' : Pos} {e : Expr} {es : List Expr} {ta : TA}
theorem pe_bInit (O : OInit X.K ini B) (hg : Gl X x) (hm : X.mg x = some (.ref B)) (ha : PA X (e :: es) ta) (hdb : (x == ("__debug__" : Str)) = false) (hs : (e :: es).all notStar = true) (hn : (e :: es).length < 29) (hl : (p2.endLine == pos.line) = true)
    (he : starEach (e :: es) X.env = (false, eval e X.env) :: starEach es X.env := by rfl) (hpl : (backTo pos (starEach es X.env)).any (·.1) = false := by rfl) :
    PE X (.Call (.Attribute (.Name x p1) "__init__" p2) (e :: es) [] pos) (tGeI X.K ini ta) := by
  refine ⟨fun pins s σ H Q I h => ?_⟩
  refine meth_late (base_of rfl) hs hn hl (ld_glob I hg hm ?_ hdb)
  refine PySem.W.method_cls I.kIn O.ga (PySem.W.cls_value I.kIn O.rd O.at_ O.hd ?_)
  show wpAny _ _ (callWith pos (Value.builtin ini) [] (backTo pos (starEach (e :: es) X.env)) []) _ _ _
  refine PyProof.Rows.callWith_method1 (thn (ha.run pos pins _ σ H _ (I.tok _) h) fun us s1 ⟨vs, H1, I1, r1, a, C, ws, ev, hl, T, ea, q⟩ => ?_) he hpl
  subst ev
  cases r1 with
  | @cons _ u0 _ ur ra rw' =>
    obtain rfl : u0 = Value.ref a := ra
    have hlen : ur.length ≤ sizeLine := by
      rw [← Paired.length rw', sizeLine_eq]
      omega
    exact ogi_ok T I1 ea hlen fun s' J => ⟨.non, H1, J, rfl, q⟩
theorem ps_osg {o : Expr} {to te : TE} (ho : PE X o to) (he : PE X e te) (hs : swapsWith e (some (.Attribute o f p')) pos.line X.env = pure false := by rfl) : PS X (.Assign [.Attribute o f p'] e pos) (tOsg X.K ini f to te) := by
  refine ⟨fun pins s σ H D I h => ?_⟩
  refine plainObj_wpAny_Assign_Attribute (thn (he.run pins s σ H _ I h) fun v s1 ⟨y, H1, I1, r1, q1⟩ => thn (ho.run pins s1 σ H1 _ I1 q1) fun u s2 ⟨x, H2, I2, r2, a, C, ex, T, hno, ea, q⟩ => ?_) hs
  subst ex
  obtain rfl : u = Value.ref a := r2
  exact ogt_new T I2 ea hno r1 fun dx s' n ne J => ⟨σ, _, J, q dx n ne⟩
/-- KeyError.__init__(self, ..) -/
theorem pe_keinit (hg : Gl X "KeyError") (hm : X.mg "KeyError" = none) (vV : PySem.W.findCls X.K (.type "KeyError") (.type "type") "__init__" = some (.val (.builtin "KeyError.__init__"))) (ha : PA X (e :: es) ta) (hs : (e :: es).all notStar = true) (hn : (e :: es).length < 29) (hl : (p2.endLine == pos.line) = true)
    (he : starEach (e :: es) X.env = (false, eval e X.env) :: starEach es X.env := by rfl) (hpl : (backTo pos (starEach es X.env)).any (·.1) = false := by rfl) :
    PE X (.Call (.Attribute (.Name "KeyError" p1) "__init__" p2) (e :: es) [] pos) (tGeI X.K "KeyError.__init__" ta) := by
  refine ⟨fun pins s σ H Q I h => ?_⟩
  refine meth_late (base_of rfl) hs hn hl (ld_blt I hg hm PyProof.Rows.Boot.«KeyError» ?_ (by decide) (by decide))
  obtain ⟨m, fr⟩ := I.fr
  refine PySem.W.method_type fr I.ok.mod.kin (show typeOf (.type "KeyError") = pure (.type "type") by kernel_rfl) (by decide +kernel) vV (by decide +kernel) ?_
  show wpAny _ _ (callWith pos (Value.builtin "KeyError.__init__") [] (backTo pos (starEach (e :: es) X.env)) []) _ _ _
  refine PyProof.Rows.callWith_method1 (thn (ha.run pos pins _ σ H _ (I.tok _) h) fun us s1 ⟨vs, H1, I1, r1, a, C, ws, ev, hl, T, ea, q⟩ => ?_) he hpl
  subst ev
  cases r1 with
  | @cons _ u0 _ ur ra rw' =>
    obtain rfl : u0 = Value.ref a := ra
    have hlen : ur.length ≤ sizeLine := by
      rw [← Paired.length rw', sizeLine_eq]
      omega
    exact ogi_ok T I1 ea hlen fun s' J => ⟨.non, H1, J, rfl, q⟩
end
end PC
end
section
set_option Elab.async false
set_option linter.all false
set_option maxRecDepth 100000
set_option maxHeartbeats 4000000
/-! PC: fields of exceptions that are values; isinstance of such. -/
namespace PC
open PySem PySem.Spec PyProof.Rows L2
/-- an exception that is a value: its object, its dict -/
def ExAt (H : Hp) (a C : Addr) (fs : List (Str × V)) : Prop := ∃ (d : Addr) (oe od : Obj), H a = some (.frz oe (exo a C (some d))) ∧ H d = some (.frz od (exd d fs))
section
variable {X : Cx} {C : Addr} {x f : Str} {pos : Pos} {e : Expr} {ta : TE} {pins : List (Addr × Obj)} {σ : L2.St} {H : Hp} {s : Shared} {a : Addr} {fs : List (Str × V)}
theorem ExAt.inst (I : L2.Inv X pins σ H s) (h : ExAt H a C fs) : ∃ (oe od : Obj) (mA : Str → Option Value) (d : Addr), PySem.W.InstAt s.heap a oe C (some od) ∧ s.heap.Ns1 d mA ∧ (∀ g, RelO (fs.lookup g) (mA g)) ∧ s.heap.get? d = some od ∧ (∀ g, PySem.W.lookIn g od = some (mA g)) ∧ (∃ vs, oe.data = .fields vs) ∧ oe.cls = .ref C := by
  obtain ⟨d, oe0, od0, ha, hd⟩ := h
  have q1 : ObjOk X.prog X.w H s.heap a (.frz oe0 (exo a C (some d))) := I.hok a _ ha
  have q2 : ObjOk X.prog X.w H s.heap d (.frz od0 (exd d fs)) := I.hok d _ hd
  obtain ⟨_, ⟨t1, e1⟩, _⟩ := q1
  obtain ⟨_, ⟨mA, hns, hr⟩, _⟩ := q2
  obtain ⟨od, ho, hl⟩ := lookIn_ns hns
  exact ⟨_, od, mA, d, ⟨e1, rfl, rfl, ho⟩, hns, hr, ho, hl, ⟨_, rfl⟩, rfl⟩
def tFldE (K : PySem.W.Frag) (ta : TE) (f : Str) : TE := fun σ H Q => ta σ H fun x H1 => ∃ (a C : Addr) (fs : List (Str × V)) (v : V), x = .ref a ∧ ExAt H1 a C fs ∧ XfC K C ∧ PySem.W.findIn K (.ref C) f = some none ∧ fs.lookup f = some v ∧ Q v H1
theorem pe_fldE (he : PE X e ta) (hb : attributeBase e f X.env (eval e X.env) = eval e X.env) : PE X (.Attribute e f pos) (tFldE X.K ta f) := by
  refine ⟨fun pins s σ H Q I h => ?_⟩
  refine attr_of hb (thn (he.run pins s σ H _ I h) fun u s1 ⟨x, H1, I1, rx, a, C, fs, v, ex, ea, T, hno, l, q⟩ => ?_)
  subst ex
  obtain rfl : u = Value.ref a := rx
  obtain ⟨oe, od, mA, d, J, hns, hr, ho, hl, _, _⟩ := ea.inst I1
  obtain ⟨u, hu, ru⟩ := RelO.some_of (v := v) (o := mA f) (by rw [← l]; exact hr f)
  exact HandSPX.exc_get I1.kIn J T.ga T.gg T.exC (PySem.W.findObj_own T.hdC hno rfl (by rw [hl, hu])) (handed_of ru) ⟨v, H1, I1.tok _, ru, q⟩
end
end PC
end
section
set_option Elab.async false
set_option linter.all false
set_option maxRecDepth 100000
set_option maxHeartbeats 4000000
/-! PC: isinstance of exceptions that are values. -/
namespace PC
open PySem PySem.Spec PyProof.Rows L2
section
variable {X : Cx} {C : Addr}
theorem clsIn_has {K : PySem.W.Frag} {C : Addr} (h : PySem.W.hasDictIn K C = true) : (PySem.W.clsIn K C).isSome = true := by
  obtain ⟨cd, hc, _⟩ := PySem.W.any_some h
  rw [hc]
  rfl
/-- isinstance(e, c), e an exception that is a value -/
def rIsX (K : PySem.W.Frag) : List V → Hp → VK → Prop := fun xs H Q => ∃ (a C : Addr) (fs : List (Str × V)) (c : V) (cv : Value) (b : Bool), xs = [.ref a, c] ∧ ExAt H a C fs ∧ ExcC K C ∧ (∀ u, RelV c u → u = cv) ∧ PySem.W.kitOne K (.ref C) cv = some b ∧ Q (.bl b) H
theorem call_isX : CallR X (.builtin "isinstance") (rIsX X.K) := by
  intro pins s σ H xs us Q I r h
  obtain ⟨a, D, fs, c, cv, b, rfl, ea, C, hcv, e, q⟩ := h
  cases r with
  | cons rx rr =>
    cases rr with
    | cons rt rr =>
      cases rr
      cases rx
      have ec := hcv _ rt
      subst ec
      obtain ⟨oe, od, mA, d, J, -⟩ := ea.inst I
      exact PySem.W.kia_one (PySem.W.kitx_exc (clsIn_has C.hd) C.hg C.hk C.hs C.ha C.hn C.ht C.hm) I.kIn J e (fun z => nomatch z) fun tk => ⟨.bl b, H, I.kept (t' := tk) fun _ _ z => z, rfl, q⟩
/-- .. an exception without fields -/
def rIsN (K : PySem.W.Frag) : List V → Hp → VK → Prop := fun xs H Q => ∃ (a C : Addr) (oe : Obj) (c : V) (cv : Value) (b : Bool), xs = [.ref a, c] ∧ H a = some (.frz oe (ExO (.ref C) a)) ∧ ExcC K C ∧ (∀ u, RelV c u → u = cv) ∧ PySem.W.kitOne K (.ref C) cv = some b ∧ Q (.bl b) H
theorem call_is2 : CallR X (.builtin "isinstance") (fun xs H Q => rIsX X.K xs H Q ∨ rIsN X.K xs H Q) := by
  intro pins s σ H xs us Q I r h
  rcases h with h | h
  · exact call_isX pins s σ H xs us Q I r h
  · obtain ⟨a, D, oe0, c, cv, b, rfl, ea, C, hcv, e, q⟩ := h
    cases r with
    | cons rx rr =>
      cases rr with
      | cons rt rr =>
        cases rr
        cases rx
        have ec := hcv _ rt
        subst ec
        have q1 : ObjOk X.prog X.w H s.heap a (.frz oe0 (ExO (.ref D) a)) := I.hok a _ ea
        obtain ⟨_, ⟨oe, vs, ho, hz, hd, _, _, _⟩, _⟩ := q1
        have J : PySem.W.InstAt s.heap a oe D none := ⟨ho, hz.1, by
          unfold PySem.W.notCls
          rw [hd] <;> rfl, by rw [hz.2]; trivial⟩
        exact PySem.W.kia_one (PySem.W.kitx_exc (clsIn_has C.hd) C.hg C.hk C.hs C.ha C.hn C.ht C.hm) I.kIn J e (fun z => nomatch z) fun tk => ⟨.bl b, H, I.kept (t' := tk) fun _ _ z => z, rfl, q⟩
end
end PC
end
section
set_option Elab.async false
set_option linter.all false
set_option maxRecDepth 100000
set_option maxHeartbeats 4000000
/-! PC: the __init__ of an exception's class, as a def that keeps its word. -/
namespace PC
open PySem PySem.Spec PyProof.Rows L2
/-- what it keeps: self.f = the one thing handed in -/
def spX (K : PySem.W.Frag) (ini : String) (f : Str) : List V → Hp → VK → Prop := fun vs H Q => ∃ (a C : Addr) (v : V), vs = [.ref a, v] ∧ OexG K ini C ∧ PySem.W.findIn K (.ref C) f = some none ∧ H a = some (exo a C none) ∧
  ∀ d, H d = none → d ≠ a → Q .non (upd (upd H d (exd d [(f, v)])) a (exo a C (some d)))
theorem init_fnG {prog : Program} {w : World} {K : PySem.W.Frag} {mg : Str → Option Value} {base : Heap} {L : Nat} {nm qual : Str} {params : Arguments} {scope : Scope} {ini : String} {dvs : List V} {kws : List (Str × V)} {fI : Addr} {fd : FuncData} {x f Bn m : Str} {B : Addr} {j : Nat} {p1 p2 p3 p4 p5 p6 p7 p8 p9 p10 : Pos}
    (D : FunD K nm qual params [.Expr (.Call (.Attribute (.Name Bn p1) "__init__" p2) [.Name "self" p3, .Constant (.str m) j p4] [] p5) p6, .Assign [.Attribute (.Name "self" p7) f p8] (.Name x p9) p10] scope dvs kws fI fd)
    (S : FnScope ["self", x] ["self", x] scope) (hB : mg Bn = some (.ref B)) (O : OInit K ini B) (gB : scope.names.lookup Bn = some .globalImplicit) (v0 : Vis scope "self") (v1 : Vis scope x) (hdb : (Bn == ("__debug__" : Str)) = false) (hx1 : (x == ("__debug__" : Str)) = false) (hx2 : (x == ("__classdict__" : Str)) = false) (hl : (p2.endLine == p5.line) = true)
    (hs1 : ∀ env l, swapsWith (.Call (.Attribute (.Name Bn p1) "__init__" p2) [.Name "self" p3, .Constant (.str m) j p4] [] p5) none l env = pure false) (hs2 : ∀ env l, swapsWith (.Name x p9) (some (.Attribute (.Name "self" p7) f p8)) l env = pure false) :
    FnG prog w K mg base (L + 1) fI fd ["self", x] (spX K ini f) := by
  refine ⟨fun vs H Q ⟨a, C, v, e, _⟩ => by rw [e]; rfl, fun A outer s H args us vs Q hr hg e0 hb r h => ?_⟩
  obtain ⟨oc, od, dV, kV, doc, pm, an, cdv, ct, osl, hfd, lk, hcd, _, _⟩ := D.ex
  rw [hfd] at lk hb
  obtain ⟨a, C, v, rfl, T, hno, ea, q⟩ := h
  refine LamX.run_ofS lk hcd S hr e0 hb r rfl fun hr' => ?_
  refine ⟨tSeq (tDrop (tGeI K ini (tCons (tVar 0) (tCons (tC (.str m)) tNil)))) (tOsg K ini f (tVar 0) (tVar 1)), pss_cons (ps_expr (pe_bInit O gB hB (pa_cons (pe_var rfl v0) (pa_cons pe_str pa_nil)) hdb rfl (show 2 < 29 by decide) hl) (hs1 _ _)) (pss_one (ps_osg (pe_var rfl v0) (pe_var rfl v1 hx1 hx2) (hs2 _ _))), ?_⟩
  exact ⟨.ref a, rfl, a, C, [.str m], rfl, by simp, T, ea, v, rfl, .ref a, rfl, a, C, rfl, T, hno, ea, q⟩
/-- .. over KeyError -/
theorem init_fnK {prog : Program} {w : World} {K : PySem.W.Frag} {mg : Str → Option Value} {base : Heap} {L : Nat} {nm qual : Str} {params : Arguments} {scope : Scope} {dvs : List V} {kws : List (Str × V)} {fI : Addr} {fd : FuncData} {x f : Str} {p1 p2 p3 p4 p5 p6 p7 p8 p9 p10 : Pos}
    (D : FunD K nm qual params [.Expr (.Call (.Attribute (.Name "KeyError" p1) "__init__" p2) [.Name "self" p3, .Name x p4] [] p5) p6, .Assign [.Attribute (.Name "self" p7) f p8] (.Name x p9) p10] scope dvs kws fI fd)
    (S : FnScope ["self", x] ["self", x] scope) (hB : mg "KeyError" = none) (vV : PySem.W.findCls K (.type "KeyError") (.type "type") "__init__" = some (.val (.builtin "KeyError.__init__"))) (gB : scope.names.lookup ("KeyError" : Str) = some .globalImplicit) (v0 : Vis scope "self") (v1 : Vis scope x) (hl : (p2.endLine == p5.line) = true) (hx1 : (x == ("__debug__" : Str)) = false) (hx2 : (x == ("__classdict__" : Str)) = false)
    (hs1 : ∀ env l, swapsWith (.Call (.Attribute (.Name "KeyError" p1) "__init__" p2) [.Name "self" p3, .Name x p4] [] p5) none l env = pure false) (hs2 : ∀ env l, swapsWith (.Name x p9) (some (.Attribute (.Name "self" p7) f p8)) l env = pure false) :
    FnG prog w K mg base (L + 1) fI fd ["self", x] (spX K "KeyError.__init__" f) := by
  refine ⟨fun vs H Q ⟨a, C, v, e, _⟩ => by rw [e]; rfl, fun A outer s H args us vs Q hr hg e0 hb r h => ?_⟩
  obtain ⟨oc, od, dV, kV, doc, pm, an, cdv, ct, osl, hfd, lk, hcd, _, _⟩ := D.ex
  rw [hfd] at lk hb
  obtain ⟨a, C, v, rfl, T, hno, ea, q⟩ := h
  refine LamX.run_ofS lk hcd S hr e0 hb r rfl fun hr' => ?_
  refine ⟨tSeq (tDrop (tGeI K "KeyError.__init__" (tCons (tVar 0) (tCons (tVar 1) tNil)))) (tOsg K "KeyError.__init__" f (tVar 0) (tVar 1)), pss_cons (ps_expr (pe_keinit gB hB vV (pa_cons (pe_var rfl v0) (pa_cons (pe_var rfl v1 hx1 hx2) pa_nil)) rfl (show 2 < 29 by decide) hl) (hs1 _ _)) (pss_one (ps_osg (pe_var rfl v0) (pe_var rfl v1 hx1 hx2) (hs2 _ _))), ?_⟩
  exact ⟨.ref a, rfl, v, rfl, a, C, [v], rfl, by simp, T, ea, v, rfl, .ref a, rfl, a, C, rfl, T, hno, ea, q⟩
end PC
end
section
set_option Elab.async false
set_option linter.all false
set_option maxRecDepth 100000
set_option maxHeartbeats 4000000
/-! PC: exceptions as values, at PC's store: their making. -/
namespace PC
open PySem PySem.Spec PyProof.Rows L2
section
variable {ini : String} {W : Wd} {Cl : Cal} {X : Cx} {c k : Nat} {fI : Addr} {fd : FuncData} {y : Str} {x f : Str} {p pos : Pos} {e : Expr} {ce : CE}
/-- the making at PC's store -/
theorem mkx_rd (hc : c < W.nx) (T : OexG X.K ini (W.xa c)) (hno : PySem.W.findIn X.K (.ref (W.xa c)) f = some none) : ∀ σ H Q, rdE W Cl (.mkx c f ce) σ H Q → tMkE (W.xa c) (spX X.K ini f) (tCons (rdE W Cl ce) tNil) σ H Q := fun σ H Q ⟨ι, S, en, d, S', R, Ve, ev, g⟩ => by
    simp only [evE] at ev
    obtain ⟨z, S1, e1, ev⟩ := bnd_some ev
    cases ev
    refine rdE_then R Ve e1 fun ι1 H1 v E1 R1 hv V1 => ?_
    refine ⟨by simp, fun a ha => ⟨a, W.xa c, v, rfl, T, hno, upd_same, fun dx hd ne => ⟨rfl, dx, [(f, v)], upd_same, ?_, ne, fun oe od => ?_⟩⟩⟩
    · rw [upd_ne ne, upd_same]
    · have hd1 : H1 dx = none := by rwa [upd_ne ne] at hd
      have eH : upd (upd (upd (upd (upd H1 a (exo a (W.xa c) none)) dx (exd dx [(f, v)])) a (exo a (W.xa c) (some dx))) dx (.frz od (exd dx [(f, v)]))) a (.frz oe (exo a (W.xa c) (some dx))) = upd (upd H1 dx (.frz od (exd dx [(f, v)]))) a (.frz oe (exo a (W.xa c) (some dx))) := by
        funext b
        by_cases h1 : b = a
        · subst h1
          rw [upd_same, upd_same]
        · rw [upd_ne h1, upd_ne h1]
          by_cases h2 : b = dx
          · subst h2
            rw [upd_same, upd_same]
          · rw [upd_ne h2, upd_ne h1, upd_ne h2, upd_ne h1, upd_ne h2]
      rw [eH]
      obtain ⟨R2, E2⟩ := R1.put hd1 (.frz od (exd dx [(f, v)]))
      have ha2 : (upd H1 dx (.frz od (exd dx [(f, v)]))) a = none := by rw [upd_ne (Ne.symm ne)]; exact ha
      obtain ⟨R3, E3⟩ := R2.put ha2 (.frz oe (exo a (W.xa c) (some dx)))
      have E4 := E2.trans R2 E3
      exact (g.thru E1 R1) ι1 _ (.ref a) E4 R3 ⟨hc, a, dx, v, oe, od, rfl, upd_same, by rw [upd_ne ne, upd_same], DV.mono E4 R1 _ _ hv⟩
theorem ok_mkx (hc : c < W.nx) (T : OexG X.K ini (W.xa c)) (hno : PySem.W.findIn X.K (.ref (W.xa c)) f = some none) (iC : PySem.W.findIn X.K (.ref (W.xa c)) "__init__" = some (some (.ref fI))) (tI : PySem.W.typeIn X.K (.ref fI) = some (.type "function"))
    (F1 : FnG X.prog X.w X.K X.mg X.base k fI fd ["self", y] (spX X.K ini f)) (hr : Room (k + 1) X.A) (hgd : X.A.guards = some []) (hg : Gl X x) (hm : X.mg x = some (.ref (W.xa c))) (hb : Binds X.K fd ["self", y] [])
    (he : PE X e (rdE W Cl ce)) (hs : notStar e = true) (hdb : (x == ("__debug__" : Str)) = false) : PE X (.Call (.Name x p) [e] [] pos) (rdE W Cl (.mkx c f ce)) :=
  (pe_makeE T iC tI F1 hr hgd hg hm hb (pa_cons he pa_nil (star_cons hs)) (by simp [hs]) hdb).w (mkx_rd hc T hno)
theorem ok_mkxk {kp : Pos} (hc : c < W.nx) (T : OexG X.K ini (W.xa c)) (hno : PySem.W.findIn X.K (.ref (W.xa c)) f = some none) (iC : PySem.W.findIn X.K (.ref (W.xa c)) "__init__" = some (some (.ref fI))) (tI : PySem.W.typeIn X.K (.ref fI) = some (.type "function"))
    (F1 : FnG X.prog X.w X.K X.mg X.base k fI fd ["self", y] (spX X.K ini f)) (hr : Room (k + 1) X.A) (hgd : X.A.guards = some []) (hg : Gl X x) (hm : X.mg x = some (.ref (W.xa c))) (hb : ∀ (s : Shared) (u : Value) (a : Addr), X.K.In s.heap → BindsTo s fd ⟨[.ref a], [(y, u)]⟩ ((["self", y] : List Str).zip [.ref a, u]))
    (he : PE X e (rdE W Cl ce)) (hdb : (x == ("__debug__" : Str)) = false) : PE X (.Call (.Name x p) [] [⟨some y, e, kp⟩] pos) (rdE W Cl (.mkx c f ce)) :=
  (pe_makeEk T iC tI F1 hr hgd hg hm rfl hb he hdb).w (mkx_rd hc T hno)
/-- a new exception without fields, then frozen -/
def QX (C : Addr) (Q : VK) : VK := fun v H2 => ∃ (a : Addr) (H1 : Hp), v = .ref a ∧ H2 = upd H1 a (ExO (.ref C) a) ∧ ∀ oe, Q (.ref a) (upd H1 a (.frz oe (ExO (.ref C) a)))
/-- C(e) of a class without an __init__ of the text's -/
def tExn (C : Addr) (ta : TE) : TE := fun σ H Q => ta σ H fun _ H1 => ∀ a, H1 a = none → QX C Q (.ref a) (upd H1 a (ExO (.ref C) a))
theorem pe_exn {C : Addr} {bmB : List Value} {B newId initId : String} {ta : TE} (F : ExcBaseFacts B newId initId bmB) (q : PySem.W.excIn X.K C bmB newId = true) (gC : X.mg x = some (.ref C)) (kC : PySem.W.keepIn X.K (.ref C) = true) (hg : Gl X x)
    (he : PE X e ta) (hs : notStar e = true) (hdb : (x == ("__debug__" : Str)) = false) : PE X (.Call (.Name x p) [e] [] pos) (tExn C ta) := by
  refine ⟨fun pins s σ H Q I h => ?_⟩
  refine thn ((pe_exc1 F q gC kC hg he (star_cons hs) hdb).run pins s σ H (QX C Q) I h) fun u s1 ⟨v, H2, I2, rv, a, H1, ev, eH, k⟩ => ?_
  subst ev eH
  obtain ⟨oe, I3⟩ := I2.lock (d := a) (u := ExO (.ref C) a) upd_same trivial
  have eH : upd (upd H1 a (ExO (.ref C) a)) a (.frz oe (ExO (.ref C) a)) = upd H1 a (.frz oe (ExO (.ref C) a)) := by
    funext b
    by_cases hb : b = a
    · subst hb
      rw [upd_same, upd_same]
    · rw [upd_ne hb, upd_ne hb, upd_ne hb]
  rw [eH] at I3
  exact ⟨.ref a, _, I3, rv, k oe⟩
/-- .. at PC's store -/
theorem ok_mkn {bmB : List Value} {B newId initId : String} (hc : c < W.nx) (F : ExcBaseFacts B newId initId bmB) (q : PySem.W.excIn X.K (W.xa c) bmB newId = true) (kC : PySem.W.keepIn X.K (.ref (W.xa c)) = true) (hg : Gl X x) (hm : X.mg x = some (.ref (W.xa c)))
    (he : PE X e (rdE W Cl ce)) (hs : notStar e = true) (hdb : (x == ("__debug__" : Str)) = false) : PE X (.Call (.Name x p) [e] [] pos) (rdE W Cl (.mkn c ce)) :=
  (pe_exn F q hm kC hg he hs hdb).w fun σ H Q ⟨ι, S, en, d, S', R, Ve, ev, g⟩ => by
    simp only [evE] at ev
    obtain ⟨z, S1, e1, ev⟩ := bnd_some ev
    cases ev
    refine rdE_then R Ve e1 fun ι1 H1 v E1 R1 hv V1 => fun a ha => ⟨a, H1, rfl, rfl, fun oe => ?_⟩
    obtain ⟨R2, E2⟩ := R1.put ha (.frz oe (ExO (.ref (W.xa c)) a))
    exact (g.thru E1 R1) ι1 _ (.ref a) E2 R2 ⟨hc, a, oe, rfl, upd_same⟩
end
end PC
end
section
set_option Elab.async false
set_option linter.all false
set_option maxRecDepth 100000
set_option maxHeartbeats 4000000
/-! PC: fields, of instances and of exceptions that are values; isinstance of such. -/
namespace PC
open PySem PySem.Spec PyProof.Rows L2
section
variable {X : Cx} {f : Str} {pos : Pos} {e : Expr} {ta : TE}
def tFld2 (K : PySem.W.Frag) (ta : TE) (f : Str) : TE := fun σ H Q => ta σ H fun x H1 =>
  (∃ (a C dx : Addr) (fs : List (Str × V)) (v : V), x = .ref a ∧ H1 a = some (.ins C dx fs) ∧ L2.Cls K C ∧ NoAttr K C f ∧ fs.lookup f = some v ∧ Q v H1) ∨
  (∃ (a C : Addr) (fs : List (Str × V)) (v : V), x = .ref a ∧ ExAt H1 a C fs ∧ XfC K C ∧ PySem.W.findIn K (.ref C) f = some none ∧ fs.lookup f = some v ∧ Q v H1)
theorem pe_fld2 (he : PE X e ta) (hb : attributeBase e f X.env (eval e X.env) = eval e X.env) : PE X (.Attribute e f pos) (tFld2 X.K ta f) := by
  refine ⟨fun pins s σ H Q I h => ?_⟩
  refine attr_of hb (thn (he.run pins s σ H _ I h) fun u s1 ⟨x, H1, I1, rx, hh⟩ => ?_)
  rcases hh with ⟨a, C, dx, fs, v, ex, ea, c, n, l, q⟩ | ⟨a, C, fs, v, ex, ea, T, hno, l, q⟩
  · subst ex
    obtain rfl : u = Value.ref a := rx
    exact getattr_ok I1 ea c n l fun u' s2 I2 ru => ⟨v, H1, I2, ru, q⟩
  · subst ex
    obtain rfl : u = Value.ref a := rx
    obtain ⟨oe, od, mA, d, J, hns, hr, ho, hl, _, _⟩ := ea.inst I1
    obtain ⟨u, hu, ru⟩ := RelO.some_of (v := v) (o := mA f) (by rw [← l]; exact hr f)
    exact HandSPX.exc_get I1.kIn J T.ga T.gg T.exC (PySem.W.findObj_own T.hdC hno rfl (by rw [hl, hu])) (handed_of ru) ⟨v, H1, I1.tok _, ru, q⟩
theorem base_of0 {o : Expr} {m : Str} {env : Env} {w : Sem Value} (h : isCall0 o = false) : attributeBase o m env w = w := by
  cases o <;> first
    | rfl
    | skip
  rename_i fn as ks p
  cases fn <;> first
    | rfl
    | skip
  cases as <;> cases ks <;> first
    | rfl
    | cases h
end
section
variable {W : Wd} {C : Cal} {X : Cx} {f y : Str} {p pos p2 : Pos} {o a : Expr} {co ca : CE} {cv : Value} {v : V} {cs : List Nat}
/-- fields of the exceptions' classes -/
def XaOk (W : Wd) (K : PySem.W.Frag) (f : Str) : Prop := ∀ c, c < W.nx → XfC K (W.xa c) ∧ PySem.W.findIn K (.ref (W.xa c)) f = some none
theorem ok_attr (hA : AttOk W X.K f) (hX : XaOk W X.K f) (ho : PE X o (rdE W C co)) (hc : isCall0 o = false) : PE X (.Attribute o f pos) (rdE W C (.attr co f)) :=
  (pe_fld2 ho (base_of0 hc)).w fun σ H Q ⟨ι, S, e, d, S', R, Ve, ev, g⟩ => by
    simp only [evE] at ev
    obtain ⟨y, S1, e1, ev⟩ := bnd_some ev
    unfold giv at ev
    obtain ⟨z, e2, e3⟩ := Option.map_eq_some_iff.mp ev
    cases e3
    refine rdE_then R Ve e1 fun ι1 H1 v E1 R1 hv V1 => ?_
    unfold atrD at e2
    split at e2
    · rename_i n
      split at e2
      · rename_i c fs hs
        obtain ⟨a, rfl, ha⟩ := hv
        obtain ⟨hcn, dx, gs, q, r⟩ := R1.ob n a _ ha hs
        obtain ⟨w, hw, hd⟩ := (kvr_lookup (f := f) r).1 _ e2
        exact .inl ⟨a, _, dx, gs, w, rfl, q, (hA c hcn).1, (hA c hcn).2, hw, (g.thru E1 R1).here R1 hd⟩
      · cases e2
    · rename_i c fx x
      split at e2
      · rename_i ef
        cases e2
        subst ef
        obtain ⟨hc, a, d, vx, oe, od, rfl, h1, h2, hd⟩ := hv
        exact .inr ⟨a, _, _, vx, rfl, ⟨d, oe, od, h1, h2⟩, (hX c hc).1, (hX c hc).2, by simp [List.lookup], (g.thru E1 R1).here R1 hd⟩
      · cases e2
    · cases e2
/-- a class, of the text or built in, by its name -/
theorem pe_cls (hg : Gl X y) (hm : X.mg y = some cv ∨ (X.mg y = none ∧ bootBuiltins y = some cv ∧ y ≠ "__name__")) (r : RelV v cv) (hdb : (y == ("__debug__" : Str)) = false) : PE X (.Name y p2) (tC v) := by
  refine ⟨fun pins s σ H Q I h => ?_⟩
  rcases hm with hm | ⟨hm, hb, hn⟩
  · exact ld_glob I hg hm ⟨v, H, I, r, h⟩ hdb
  · exact ld_blt I hg hm hb ⟨v, H, I, r, h⟩ hn hdb
/-- what is asked: a class, and which of the exceptions' classes stand under it -/
def XiOk (W : Wd) (K : PySem.W.Frag) (mg : Str → Option Value) (y : Str) (cs : List Nat) : Prop := ∃ (v : V) (cv : Value), (mg y = some cv ∨ (mg y = none ∧ bootBuiltins y = some cv ∧ y ≠ "__name__")) ∧ RelV v cv ∧ (∀ u, RelV v u → u = cv) ∧ ∀ c, c < W.nx → ExcC K (W.xa c) ∧ PySem.W.kitOne K (.ref (W.xa c)) cv = some (decide (c ∈ cs))
theorem ok_isx (hK : X.K = W.K) (hg : Gl X "isinstance") (hm : X.mg "isinstance" = none) (hgy : Gl X y) (hx : XiOk W X.K X.mg y cs) (hdb : (y == ("__debug__" : Str)) = false) (ha : PE X a (rdE W C ca)) (hs : notStar a = true) :
    PE X (.Call (.Name "isinstance" p) [a, .Name y p2] [] pos) (rdE W C (.isx ca cs)) := by
  obtain ⟨v, cv, h1, h2, h3, h4⟩ := hx
  refine (pe_callB (t := tCons (rdE W C ca) (tCons (tC v) tNil)) call_is2 hg hm boot_isi (pa_cons ha (pa_cons (pe_cls hgy h1 h2 hdb) pa_nil (star_cons rfl)) (star_cons hs)) (by decide) (by decide) (star_cons hs) (back_any rfl)).w fun σ H Q ⟨ι, S, e, d, S', R, Ve, ev, g⟩ => ?_
  simp only [evE] at ev
  obtain ⟨x, S1, e1, ev⟩ := bnd_some ev
  split at ev
  · rename_i c fx xx
    cases ev
    refine rdE_then R Ve e1 fun ι1 H1 u E1 R1 hv V1 => ?_
    obtain ⟨hc, a, dd, vx, oe, od, rfl, q1, q2, hd⟩ := hv
    exact .inl ⟨a, _, _, v, cv, _, rfl, ⟨dd, oe, od, q1, q2⟩, (h4 c hc).1, h3, (h4 c hc).2, (g.thru E1 R1).here R1 rfl⟩
  · rename_i c
    cases ev
    refine rdE_then R Ve e1 fun ι1 H1 u E1 R1 hv V1 => ?_
    obtain ⟨hc, a, oe, rfl, q1⟩ := hv
    exact .inr ⟨a, _, oe, v, cv, _, rfl, q1, (h4 c hc).1, h3, (h4 c hc).2, (g.thru E1 R1).here R1 rfl⟩
  · cases ev
end
end PC
end
section
set_option Elab.async false
set_option linter.all false
set_option maxRecDepth 100000
set_option maxHeartbeats 4000000
/-! PC: raise C(..), by place and by name (the exception's context None, so that a suite is known to be hot); isinstance of what a suite holds. -/
namespace PC
open PySem PySem.Spec PyProof.Rows L2
section
variable {X : Cx} {ini : String} {C fI : Addr} {k : Nat} {fd : FuncData} {ps : List Str} {sp : List V → Hp → VK → Prop} {x y : Str} {p pos kp : Pos} {e : Expr} {es : List Expr} {t : TA}
/-- behind the __init__: the object is let go, its dict stands -/
def RsdE (C a : Addr) (H : Hp) (Q : XK) : VK := fun v H2 => v = .non ∧ ∃ (d : Addr) (fs : List (Str × V)), H2 a = some (exo a C (some d)) ∧ H2 d = some (exd d fs) ∧ H d = none ∧ Q (.ref C) (some d) (upd (del H2 a) d (.xd fs))
def tRsE (C : Addr) (sp : List V → Hp → VK → Prop) (t : TA) : L2.St → Hp → XK → Prop := fun σ H Q => t σ H fun vs H1 => ∀ a, H1 a = none → sp (.ref a :: vs) (upd H1 a (exo a C none)) (RsdE C a H1 Q)
theorem run_mkP {pins : List (Addr × Obj)} {σ : L2.St} {H : Hp} {s : Shared} {Q : XK} {us zs : List Value} {kw : List (Str × Value)} {vs : List V} (T : OexG X.K ini C) (iC : PySem.W.findIn X.K (.ref C) "__init__" = some (some (.ref fI))) (tI : PySem.W.typeIn X.K (.ref fI) = some (.type "function"))
    (F1 : FnG X.prog X.w X.K X.mg X.base k fI fd ps sp) (hr : Room (k + 1) X.A) (hgd : X.A.guards = some []) (hb : ∀ (s : Shared) (a : Addr), X.K.In s.heap → BindsTo s fd ⟨.ref a :: us, kw⟩ (ps.zip (.ref a :: zs))) (I : L2.Inv X pins σ H s) (r1 : Vals vs zs) (few : us.length ≤ sizeLine)
    (h : ∀ a, H a = none → sp (.ref a :: vs) (upd H a (exo a C none)) (RsdE C a H Q)) :
    wpAny (model X.prog X.w) X.A (PySem.call (.ref C) us kw) (L2N.MkP X pins σ Q) X.xe s := by
  obtain ⟨nm, qn, N, bs, bm, sn, su, ab, co, dl, k0, k1, k2, k3, k5, nw, hC, hbm, _, _⟩ := T.cls
  obtain ⟨hp, gs, dr, tk, ost⟩ := s
  have up1 : hp.objs.size ≤ hp.objs.size + 1 := Nat.le_succ _
  have hn : H (hp.objs.size + 1) = none := I.hok.fresh up1
  have kk : ∀ b o, hp.get? b = some o → ((hp.push (PySem.W.kdv_tup us)).push (PySem.HandSPX.excO C hp.objs.size)).get? b = some o := fun b o e =>
    Heap.get?_push_of_some _ (Heap.get?_push_of_some _ e)
  have at_ : ((hp.push (PySem.W.kdv_tup us)).push (PySem.HandSPX.excO C hp.objs.size)).get? (hp.objs.size + 1) = some (PySem.HandSPX.excO C hp.objs.size) := by heap_get
  have J : Inv X pins σ (upd H (hp.objs.size + 1) (exo (hp.objs.size + 1) C none)) ⟨(hp.push (PySem.W.kdv_tup us)).push (PySem.HandSPX.excO C hp.objs.size), gs, dr, tk, ost⟩ :=
    I.laid (t' := tk) (h' := (hp.push (PySem.W.kdv_tup us)).push (PySem.HandSPX.excO C hp.objs.size)) kk up1 (exo_ok at_)
  refine wpAny_call (PySem.XG.xcall hbm (I.kIn _ _ hC) few (PySem.W.looks_findIn I.kIn iC) (fun self => PySem.W.bind_fn I.kIn self tI)
    (codeAny_mono (F1.run _ X.stack _ _ ⟨Value.ref (hp.objs.size + 1) :: us, kw⟩ (Value.ref (hp.objs.size + 1) :: zs) (V.ref (hp.objs.size + 1) :: vs) _ (hr.make C us kw) (make_guards hgd) (J.env0.make C us kw) (hb _ _ J.kIn) (.cons rfl r1) (h _ hn)) fun r s' hq => ?_))
  rcases r with er | (v | _ | _ | u)
  · exact False.elim hq
  · exact False.elim hq
  · exact False.elim hq
  · exact False.elim hq
  · obtain ⟨v, H2, os2, bare, un, ok2, rv, ev, d, fs, ea, ed, hd1, q⟩ := hq
    subst ev
    obtain ⟨h2, g2, d2, t2, os'⟩ := s'
    obtain ⟨t0, G, J0, kG, ge, hoe, na⟩ := mk_end0 (d2 := d2) (t2 := t2) I up1 kk un ok2 os2 bare ea ed hd1
    refine ⟨rv, hp.objs.size + 1, _, _, ⟨G, g2, d2, t2, os'⟩, _, .ref C, some d, rfl, J0, kG, ge, hoe, ⟨rfl, rfl, fun vs hv => ?_⟩, rfl, rfl, na, rfl, bare, raises_own T.exC T.tyC, q⟩
    cases hv
    rfl
theorem pmk_x (T : OexG X.K ini C) (iC : PySem.W.findIn X.K (.ref C) "__init__" = some (some (.ref fI))) (tI : PySem.W.typeIn X.K (.ref fI) = some (.type "function"))
    (F1 : FnG X.prog X.w X.K X.mg X.base k fI fd ps sp) (hr : Room (k + 1) X.A) (hgd : X.A.guards = some []) (hg : Gl X x) (hm : X.mg x = some (.ref C)) (hb : Binds X.K fd ps []) (hps : ps.length ≤ 1000)
    (ha : PA X (e :: es) t) (hs : (e :: es).all notStar = true) (hdb : (x == ("__debug__" : Str)) = false)   : L2N.PMk X (.Call (.Name x p) (e :: es) [] pos) (tRsE C sp t) := by
  intro pins s σ H Q I h
  refine wpAny_Call_Name_kw (ld_glob I hg hm ?_ hdb)
  rw [List.all_cons, Bool.and_eq_true] at hs
  refine PySem.W.callWith_K (h₀ := X.base) I.ok.mod.kin T.kC (thn (ha.run pos pins s σ H _ I h) fun us s1 ⟨vs, H1, I1, r, q⟩ => ⟨I1.kIn, ?_⟩) (star_cons hs.1) (back_any hs.2)
  have hlen : us.length + 1 = ps.length := by
    have q1 := F1.len _ _ _ (q s1.heap.objs.size (I1.hok.fresh (Nat.le_refl _)))
    rw [List.length_cons, r.length] at q1
    exact q1
  refine run_mkP (us := us) (zs := us) (kw := []) T iC tI F1 hr hgd (fun s a k => ?_) I1 r (by rw [sizeLine_eq]; omega) q
  have b := hb s (.ref a :: us) k (by rw [List.append_nil]; exact hlen)
  rw [List.append_nil] at b
  exact b
theorem pmk_xk {te : TE} (T : OexG X.K ini C) (iC : PySem.W.findIn X.K (.ref C) "__init__" = some (some (.ref fI))) (tI : PySem.W.typeIn X.K (.ref fI) = some (.type "function"))
    (F1 : FnG X.prog X.w X.K X.mg X.base k fI fd ps sp) (hr : Room (k + 1) X.A) (hgd : X.A.guards = some []) (hg : Gl X x) (hm : X.mg x = some (.ref C)) (hp : ps.length = 2) (hb : ∀ (s : Shared) (u : Value) (a : Addr), X.K.In s.heap → BindsTo s fd ⟨[.ref a], [(y, u)]⟩ (ps.zip [.ref a, u]))
    (ha : PE X e te) (hdb : (x == ("__debug__" : Str)) = false)   : L2N.PMk X (.Call (.Name x p) [] [⟨some y, e, kp⟩] pos) (tRsE C sp (tCons te tNil)) := by
  intro pins s σ H Q I h
  refine wpAny_Call_Name_kw (ld_glob I hg hm ?_ hdb)
  refine PySem.W.callWith_KW0 (h₀ := X.base) I.ok.mod.kin T.kC rfl ?_ rfl
  refine thn ((pk_cons (nm := some y) (kpos := kp) ha pk_nil).run pos pins s σ H _ I h) fun us s1 ⟨vs, H1, I1, r, q⟩ => ⟨I1.kIn, ?_⟩
  have hl1 : us.length = 1 := by
    have q1 := F1.len _ _ _ (q s1.heap.objs.size (I1.hok.fresh (Nat.le_refl _)))
    rw [List.length_cons, r.length, hp] at q1
    omega
  obtain ⟨u, rfl⟩ : ∃ u, us = [u] := List.length_eq_one_iff.mp hl1
  exact run_mkP (us := []) (zs := [u]) (kw := [(y, u)]) T iC tI F1 hr hgd (fun s a k => hb s u a k) I1 r (Nat.zero_le _) q
end
/-! ### isinstance of what the suite holds -/
/-- isinstance(e, c), e the exception that the suite holds, with its dict -/
def rIsD (K : PySem.W.Frag) (D a : Addr) (d : Addr) : List V → Hp → VK → Prop := fun xs H Q => ∃ (c : V) (cv : Value) (b : Bool) (fs : List (Str × V)), xs = [.ref a, c] ∧ H d = some (.xd fs) ∧ (∀ u, RelV c u → u = cv) ∧ PySem.W.kitOne K (.ref D) cv = some b ∧ Q (.bl b) H
theorem call_isD {X : Cx} {a D d : Addr} {oe : Obj} (C : ExcC X.K D) (hp : (a, oe) ∈ X.pn) (hz : Zc (.ref D) (some d) oe) (hf : ∃ vs, oe.data = .fields vs) : CallR X (.builtin "isinstance") (rIsD X.K D a d) := by
  intro pins s σ H xs us Q I r h
  obtain ⟨c, cv, b, fs, rfl, ed, hcv, e, q⟩ := h
  cases r with
  | cons rx rr =>
    cases rr with
    | cons rt rr =>
      cases rr
      cases rx
      have ec := hcv _ rt
      subst ec
      obtain ⟨hget, _⟩ := I.pin (a, oe) (List.mem_append.mpr (.inl hp))
      obtain ⟨vs, hv⟩ := hf
      have hx : ObjOk X.prog X.w H s.heap d (.xd fs) := I.hok d _ ed
      obtain ⟨mA, hns, hr⟩ := hx
      obtain ⟨od, ho, hl⟩ := lookIn_ns hns
      have J : PySem.W.InstAt s.heap a oe D (some od) := ⟨hget, hz.1, by unfold PySem.W.notCls; rw [hv] <;> rfl, by rw [hz.2]; exact ho⟩
      exact PySem.W.kia_one (PySem.W.kitx_exc (clsIn_has C.hd) C.hg C.hk C.hs C.ha C.hn C.ht C.hm) I.kIn J e (fun z => nomatch z) fun tk => ⟨.bl b, H, I.kept (t' := tk) fun _ _ z => z, rfl, q⟩
end PC
end
section
set_option Elab.async false
set_option linter.all false
set_option maxRecDepth 100000
set_option maxHeartbeats 1000000
/-! PC: dict comprehensions, methods of dicts. -/
namespace PC
open PySem L2
section
variable {J : It} {n : Nat} {G : Hp → Prop} {Y : Nat → Hp → V → Hp → Prop}
theorem dc_it (w : Walk J n G Y) {g : TG} {tt : TT} {tk tv : TE} {vs : List Nat} {σ : L2.St} {H1 : Hp} {A : Addr} {Qd : Hp → Prop} (Pv : Nat → Hp → Prop) (h0 : Pv 0 (upd H1 A (.dK []))) (hG : ∀ i H, i ≤ n → Pv i H → G H)
    (hs : ∀ i x H H', i < n → Pv i H → Y i H x H' → g x (L2.wipe σ vs) H' fun σ2 H2 => L2.wipe σ2 vs = L2.wipe σ vs ∧ tt σ2 H2 fun b H3 =>
      if b = true then tk σ2 H3 fun y H4 => tv σ2 H4 fun z H5 => ∃ kvs k, y = kV k ∧ H5 A = some (.dK kvs) ∧ kvs.length < sizeLine ∧ Pv (i + 1) (upd H5 A (.dK (L2.putK kvs k z))) else Pv (i + 1) H3) (hd : ∀ H, Pv n H → Qd H) :
    ∃ W : Nat → Nat → Hp → Prop, (∃ m, W 0 m (upd H1 A (.dK []))) ∧ ∀ i m H, W i m H →
      (J.stop i H ∧ Qd H) ∨ (J.go i H ∧ ∃ Nx : Hp → Prop, (∀ H', Nx H' → ∃ m', m' < m ∧ W (i + 1) m' H') ∧ ∀ x H', J.yld i H x H' → g x (L2.wipe σ vs) H' fun σ2 H2 => L2.wipe σ2 vs = L2.wipe σ vs ∧ tt σ2 H2 fun b H3 =>
        if b = true then tk σ2 H3 fun y H4 => tv σ2 H4 fun z H5 => ∃ kvs k, y = kV k ∧ H5 A = some (.dK kvs) ∧ kvs.length < sizeLine ∧ Nx (upd H5 A (.dK (L2.putK kvs k z))) else Nx H3) := by
  refine ⟨fun i m H => m = n - i ∧ i ≤ n ∧ Pv i H, ⟨n, by simp, Nat.zero_le _, h0⟩, ?_⟩
  rintro i m H ⟨rfl, hi, p⟩
  have q := hG i H hi p
  by_cases hlt : i < n
  · refine .inr ⟨w.goes i H hlt q, Pv (i + 1), fun H' p' => ⟨n - (i + 1), by omega, rfl, hlt, p'⟩, fun x H' y => hs i x H H' hlt p (w.yields i H x H' hlt q y)⟩
  · have e : i = n := by omega
    subst e
    exact .inl ⟨w.stops H q, hd H p⟩
end
section
variable {W : Wd} {C : Cal} {ι ι' ι1 : List Addr} {S S' S1 : Sto} {H H' H1 : Hp} {e : En} {σ : L2.St} {X : Cx}
def foldP (kvs : List (Ky × D)) (ps : List (Ky × D)) : List (Ky × D) := ps.foldl (fun m kv => putK kv.1 kv.2 m) kvs
theorem foldP_len (ps : List (Ky × D)) : ∀ kvs : List (Ky × D), (foldP kvs ps).length ≤ kvs.length + ps.length := by
  induction ps with
  | nil => intro kvs; exact Nat.le_refl _
  | cons p ps ih =>
    intro kvs
    have h1 := ih (putK p.1 p.2 kvs)
    have h2 : (putK p.1 p.2 kvs).length ≤ kvs.length + 1 := by
      unfold putK
      split
      · rw [List.length_map]
        omega
      · rw [List.length_append]
        exact Nat.le_refl _
    show (foldP (putK p.1 p.2 kvs) ps).length ≤ _
    rw [List.length_cons]
    omega
theorem optMap_app {α β : Type} {f : α → Option β} : ∀ {xs ys : List α} {zs : List β}, optMap f (xs ++ ys) = some zs → ∃ as bs, optMap f xs = some as ∧ optMap f ys = some bs ∧ zs = as ++ bs
  | [], ys, zs, h => ⟨[], zs, rfl, h, rfl⟩
  | x :: xs, ys, zs, h => by
    obtain ⟨y, r, rfl, h1, h2⟩ := optMap_cons h
    obtain ⟨as, bs, q1, q2, rfl⟩ := optMap_app h2
    exact ⟨y :: as, bs, by simp only [optMap, h1, q1], q2, rfl⟩
theorem optMap_snoc {α β : Type} {f : α → Option β} : ∀ {xs : List α} {as : List β} {y : α} {b : β}, optMap f xs = some as → f y = some b → optMap f (xs ++ [y]) = some (as ++ [b])
  | [], _, y, b, h, hy => by
    cases h
    simp only [List.nil_append, optMap, hy]
  | x :: xs, _, y, b, h, hy => by
    obtain ⟨z, r, rfl, h1, h2⟩ := optMap_cons h
    have ih := optMap_snoc h2 hy
    simp only [List.cons_append, optMap, h1, ih]
theorem ev_dc {k v : CE} {tg : Tg} {src : Src} {it ifs : CEs} {own : List Nat} {d : D} (h : evE C (.dc k v tg src it ifs own) e S = some (d, S')) :
    ∃ as S1 xs st ys S3 kvs, evEs C it e S = some (as, S1) ∧ itD src as S1 = some (xs, st) ∧ lcLoop (lcTn (tstEs C ifs) (dcF (evE C k) (evE C v)) tg (wipe e own)) xs (st.foldl froz S1) = some (ys, S3) ∧ optMap pairD ys = some kvs ∧ ys.length < line ∧ new (.dk (foldP [] kvs)) (st.foldl (thaw S1) S3) = some (d, S') := by
  simp only [evE] at h
  obtain ⟨as, S1, e1, h⟩ := bnd_some h
  split at h
  · rename_i ys S2 hr
    split at h
    · rename_i kvs hk
      split at h
      · rename_i hz
        unfold lcRun at hr
        split at hr
        · rename_i xs st hi
          split at hr
          · rename_i ys' S3 hl
            cases hr
            exact ⟨as, S1, xs, st, ys, S3, kvs, e1, hi, hl, hk, hz, h⟩
          · cases hr
        · cases hr
      · cases h
    · cases h
  · cases h
theorem dcF_some {f g : En → Sto → Re D} {d : D} (h : dcF f g e S = some (d, S')) : ∃ x S1 y k, f e S = some (x, S1) ∧ g e S1 = some (y, S') ∧ keyOf x = some k ∧ d = .tup [x, y] := by
  unfold dcF at h
  obtain ⟨x, S1, e1, h⟩ := bnd_some h
  obtain ⟨y, S2, e2, h⟩ := bnd_some h
  split at h
  · rename_i k hk
    cases h
    exact ⟨x, S1, y, k, e1, e2, hk, rfl⟩
  · cases h
theorem dc_main {kx vx : CE} {tg : Tg} {ifs : CEs} {own : List Nat} {J : It} {xs ys : List D} {kvs : List (Ky × D)} {Sf S3 : Sto} {Q : VK} (hown : ∀ i ∈ tg.ixs, i ∈ own) (Rf : Rep W ι1 Sf H1) (Ve : EnV W ι1 H1 e σ) (w : WkD W J xs ι1 Sf H1) (hlp : lcLoop (lcTn (tstEs C ifs) (dcF (evE C kx) (evE C vx)) tg (wipe e own)) xs Sf = some (ys, S3)) (hkv : optMap pairD ys = some kvs) (hz : ys.length < line)
    (fin : ∀ ι H A vs, H1 A = none → Ext ι1 Sf H1 ι S3 H → Rep W ι S3 H → A ∉ ι → H A = some (.dK vs) → KVr W ι H (foldP [] kvs) vs → Q (.ref A) H) :
    tDc (fun _ H R => R J H) (rdG W tg) (rdTs W C ifs) (rdE W C kx) (rdE W C vx) own σ H1 Q := by
  obtain ⟨G, Y, wk, hY⟩ := w
  intro A hA
  have hA1 : A ∉ ι1 := Rf.fresh hA
  refine dc_it wk (fun i H => ∃ ι S acc as' vs rest, Ext ι1 (Sf) H1 ι S H ∧ Rep W ι S H ∧ A ∉ ι ∧ H A = some (.dK vs) ∧ optMap pairD acc = some as' ∧ KVr W ι H (foldP [] as') vs ∧ lcLoop (lcTn (tstEs C ifs) (dcF (evE C kx) (evE C vx)) tg (wipe e own)) (xs.drop i) S = some (rest, S3) ∧ acc ++ rest = ys) ?_ ?_ ?_ ?_
  · obtain ⟨Rp, Ep⟩ := Rf.put hA (.dK [])
    exact ⟨ι1, _, [], [], [], ys, Ep, Rp, hA1, upd_same, rfl, .nil, hlp, rfl⟩
  · rintro i H hi ⟨ι, S, acc, as', vs, rest, E, R, hn, hq, ha, hd, hl, he⟩
    exact (hY ι S H E R).1
  · rintro i x H H' hi ⟨ι, S, acc, as', vs, rest, E, R, hn, hq, ha, hd, hl, he⟩ hy
    obtain ⟨R', E', dx, hx, hdx⟩ := (hY ι S H E R).2 i x H' hi hy
    have hq' : H' A = some (.dK vs) := E'.keep A _ hq (fun ps z => nomatch z) fun z => absurd z hn
    have hd' := KVr.mono E' R hd
    have e0 : xs.drop i = dx :: xs.drop (i + 1) := by
      rw [List.drop_eq_getElem_cons hi]
      rw [List.getElem?_eq_getElem hi] at hx
      cases hx
      rfl
    rw [e0] at hl
    simp only [lcLoop] at hl
    split at hl
    · rename_i o S4 ho
      split at hl
      · rename_i rest' S5 hl'
        cases hl
        unfold lcTn at ho
        split at ho
        · rename_i e2 hp
          have Vw : EnV W ι H' (wipe e own) (L2.wipe σ own) := by
            exact ((Ve.mono E Rf).mono E' R).wipe own
          refine ⟨ι, S, _, dx, e2, R', Vw, hdx, hp, fun σ2 V2 l2 o2 => ⟨wipe_same l2 fun j hj => o2 j fun z => hj (hown j z), ?_⟩⟩
          have Eb : Ext ι1 (Sf) H1 ι S H' := E.trans R E'
          split at ho
          · rename_i S6 ht
            split at ho
            · rename_i y S7 hv
              cases ho
              obtain ⟨kd, S8, vd, kk, f1, f2, f3, rfl⟩ := dcF_some hv
              refine ⟨ι, S, e2, true, S6, R', V2, ht, fun ι3 H3 E3 R3 => ?_⟩
              simp only [if_true]
              have hq3 : H3 A = some (.dK vs) := E3.keep A _ hq' (fun ps z => nomatch z) fun z => absurd z hn
              have hn3 := not_in E3 hq' hn
              refine rdE_then R3 (V2.mono E3 R') f1 fun ι4 H4 u E4 R4 hu V4 => ?_
              have hq4 : H4 A = some (.dK vs) := E4.keep A _ hq3 (fun ps z => nomatch z) fun z => absurd z hn3
              have hn4 := not_in E4 hq3 hn3
              refine rdE_then R4 V4 f2 fun ι5 H5 w E5 R5 hw V5 => ?_
              have hq5 : H5 A = some (.dK vs) := E5.keep A _ hq4 (fun ps z => nomatch z) fun z => absurd z hn4
              have hn5 := not_in E5 hq4 hn4
              have hd5 := KVr.mono E5 R4 (KVr.mono E4 R3 (KVr.mono E3 R' hd'))
              have hlen : vs.length < sizeLine := by
                rw [← kvr_len hd]
                have h1 := foldP_len as' []
                have h2 : as'.length = acc.length := optMap_len ha
                have h3 : (acc ++ ([D.tup [kd, vd]] ++ rest')).length = ys.length := by rw [← he]; rfl
                simp only [List.length_append, List.length_singleton] at h3
                have h4 : line = sizeLine := rfl
                simp only [List.length_nil] at h1
                omega
              have hpair : optMap pairD (acc ++ [.tup [kd, vd]]) = some (as' ++ [(kk, vd)]) := optMap_snoc ha (by simp only [pairD, f3, Option.map_some])
              refine ⟨vs, kk, (key_v f3 hu).symm, hq5, hlen, ι5, _, acc ++ [.tup [kd, vd]], as' ++ [(kk, vd)], L2.putK vs kk w, rest', ?_, R5.beside hn5 hq5 trivial, hn5, upd_same, hpair, ?_, hl', ?_⟩
              · exact (((Eb.trans R' E3).trans R3 E4).trans R4 E5).beside hA
              · have hf : foldP [] (as' ++ [(kk, vd)]) = putK kk vd (foldP [] as') := by
                  unfold foldP
                  rw [List.foldl_append]
                  rfl
                rw [hf]
                exact Paired.imp (fun p q z => ⟨z.1, DV.gen (fun _ _ h => h) (own_keep hq5 trivial) _ _ z.2⟩) (put_kv hw hd5)
              · rw [← he, List.append_assoc]
                rfl
            · cases ho
          · rename_i S6 ht
            cases ho
            refine ⟨ι, S, e2, false, S4, R', V2, ht, fun ι3 H3 E3 R3 => ?_⟩
            simp only [Bool.false_eq_true, if_false]
            have hq3 : H3 A = some (.dK vs) := E3.keep A _ hq' (fun ps z => nomatch z) fun z => absurd z hn
            exact ⟨ι3, _, acc, as', vs, rest', Eb.trans R' E3, R3, not_in E3 hq' hn, hq3, ha, KVr.mono E3 R' hd', hl', he⟩
          · cases ho
        · cases ho
      · cases hl
    · cases hl
  · rintro H ⟨ι, S, acc, as', vs, rest, E, R, hn, hq, ha, hd, hl, he⟩
    rw [List.drop_length] at hl
    simp only [lcLoop] at hl
    cases hl
    rw [List.append_nil] at he
    subst he
    rw [ha] at hkv
    cases hkv
    exact fin ι H A vs hA E R hn hq hd
theorem dc_ok {kx vx : CE} {tg : Tg} {src : Src} {it ifs : CEs} {own : List Nat} (hown : ∀ i ∈ tg.ixs, i ∈ own) (σ : L2.St) (H : Hp) (Q : VK) (h : rdE W C (.dc kx vx tg src it ifs own) σ H Q) :
    tDc (wiS W C src it) (rdG W tg) (rdTs W C ifs) (rdE W C kx) (rdE W C vx) own σ H Q := by
  obtain ⟨ι0, S0, e, d, S', R0, Ve, ev, g⟩ := h
  obtain ⟨as, S1, xs, st, ys, S3, kvs, e1, hi, hlp, hkv, hz, hnew⟩ := ev_dc ev
  cases hnew
  refine ⟨ι0, S0, e, as, S1, xs, st, R0, Ve, e1, hi, fun ι1 H1 J E1 R1 w => ?_⟩
  refine dc_main hown R1.froz ((Ve.mono E1 R0).mono (fr_refl (st := st)) R1) w hlp hkv hz fun ι H A vs hA E R hn hq hd => ?_
  obtain ⟨R2, E2⟩ := loop_end E R
  have eu : upd H A (.dK vs) = H := by
    funext b
    unfold upd
    split
    · rename_i hb
      rw [hb, hq]
    · rfl
  have hi : ∀ (n : Nat) a, ι[n]? = some a → (ι ++ [A])[n]? = some a := fun n a h => by
    rw [List.getElem?_append_left (List.getElem?_eq_some_iff.mp h).1]
    exact h
  have ho : OV W (ι ++ [A]) (upd H A (.dK vs)) A (.dk (foldP [] kvs)) := ⟨vs, upd_same, KVr.gen hi (own_keep hq trivial) hd⟩
  obtain ⟨R3, E3⟩ := adopt (u' := .dK vs) E2 R2 hA hn hq trivial ho
  rw [eu] at R3 E3
  refine g _ _ _ (E1.trans R1 E3) R3 ⟨A, rfl, ?_⟩
  rw [← R2.len, List.getElem?_append_right (Nat.le_refl _)]
  simp
end
/-! ### d.update(e) -/
theorem d_upd {X : Cx} {pins : List (Addr × Obj)} {σ : L2.St} {H : Hp} {s : Shared} {a b : Addr} {kvs more : List (Key × V)} {A : Around} {E : Value → Shared → Prop} {Q : Value → Shared → Prop} (I : L2.Inv X pins σ H s) (e : H a = some (.dK kvs)) (e2 : H b = some (.dK more)) (ne : a ≠ b) (hl : kvs.length + more.length ≤ sizeLine)
    (h : ∀ s', L2.Inv X pins σ (upd H a (.dK (mergeK kvs more))) s' → Q .none s') : wpAny (model X.prog X.w) A (PySem.call (.builtin "dict.update") [.ref a, .ref b]) Q E s := by
  obtain ⟨z, hd, vs, rel, dd⟩ := dk_of I.hok e
  obtain ⟨z2, hd2, ws, rel2, dd2⟩ := dk_of I.hok e2
  refine call_meetsIn PySem.F.slot_dict_update dd.typeIs PySem.F.entry_dict_update (PySem.F.args_dict_update_2 _ _) (meets_dict_update (mixKind X.prog X.w) a b ne hd2)
    ⟨vs, ws, dd, dd2, by rw [← rel.length, ← rel2.length]; exact hl, fun h' dd' _ hs => h _ ?_⟩
  have he : ∃ q, h'.get? a = some q := let ⟨q, _, _, hq, _⟩ := dd'; ⟨q, hq⟩
  exact d_write I (by rw [e]; exact True.intro) hs he (dk_new (Nat.le_trans (length_mergeK more kvs) hl) hd (KV.merge rel2 rel) dd')
def tDUpd (td ty : TE) : TE := fun σ H Q => td σ H fun x H1 => ∃ a, x = .ref a ∧ IsD H1 a ∧ ty σ H1 fun y H2 => ∃ b kvs more, y = .ref b ∧ H2 a = some (.dK kvs) ∧ H2 b = some (.dK more) ∧ a ≠ b ∧ kvs.length + more.length ≤ sizeLine ∧ Q .non (upd H2 a (.dK (mergeK kvs more)))
theorem pe_dupd {X : Cx} {o e : Expr} {td ty : TE} {apos cpos : Pos} (ho : PE X o td) (he : PE X e ty) (m : M1 X o "update" apos e cpos) : PE X (.Call (.Attribute o "update" apos) [e] [] cpos) (tDUpd td ty) := by
  refine ⟨fun pins s σ H Q I h => ?_⟩
  refine wpAny_Call_method m.base m.few m.line PySem.F.plainAttrs_dict PySem.F.slot_dict_update PySem.F.type_dict_update (thn (ho.run pins s σ H _ I h) fun u s1 ⟨x, H1, I1, rx, a, ex, d, q1⟩ => ?_)
  subst ex
  obtain rfl : u = Value.ref a := rx
  obtain ⟨t1, t2, _⟩ := isD_at I1 d
  refine ⟨t1, t2, ?_⟩
  rw [m.trees]
  refine Calls.callWith_builtin rfl (Calls.evalArgs_plain (Calls.spliced_cons (thn (he.run pins s1 σ H1 _ I1 q1) fun iv s2 ⟨y, H2, I2, ry, b, kvs, more, ey, ea, eb, ne, hl, q2⟩ => Calls.spliced_nil ?_)))
  subst ey
  obtain rfl : iv = Value.ref b := ry
  exact d_upd I2 ea eb ne hl fun s3 I3 => ⟨.non, _, I3, rfl, q2⟩
/-! ### at PC's store -/
section
variable {W : Wd} {C : Cal} {ι ι' ι1 : List Addr} {S S' S1 : Sto} {H H' H1 : Hp} {en : En} {σ : L2.St} {X : Cx} {o a b : Expr} {co ca cb : CE} {ap cp : Pos}
theorem isDk_at {x : D} {v : V} (h : isDk x S = true) (R : Rep W ι S H) (hv : DV W ι H x v) : ∃ p, v = .ref p ∧ IsD H p := by
  unfold isDk at h
  split at h
  · rename_i n
    split at h
    · rename_i kvs hs
      obtain ⟨p, rfl, hp⟩ := hv
      obtain ⟨vs, q, r⟩ := R.ob n p _ hp hs
      exact ⟨p, rfl, .inl ⟨vs, .inl q⟩⟩
    · cases h
  · cases h
theorem m1_of {m : Str} (hs : notStar a = true) (hc : isCall o = false) (hl : (ap.endLine == cp.line) = true) : M1 X o m ap a cp :=
  ⟨base_of hc, few1 hs, hl, by rw [star_cons hs]; rfl⟩
theorem m2_of {m : Str} (hs : notStar a = true) (hs2 : notStar b = true) (hc : isCall o = false) (hl : (ap.endLine == cp.line) = true) : M2 X o m ap a b cp :=
  ⟨base_of hc, by rw [star_cons hs, star_cons hs2]; rfl, hl, by rw [star_cons hs, star_cons hs2]; rfl⟩
theorem getD2_some {x y z w : D} (h : getD2 x y z S = some w) : ∃ n kvs k, x = .ref n ∧ S[n]? = some (.dk kvs) ∧ keyOf y = some k ∧ (valK k kvs).getD z = w := by
  unfold getD2 at h
  split at h
  · rename_i n
    split at h
    · rename_i kvs hs
      obtain ⟨k, hk, e⟩ := Option.map_eq_some_iff.mp h
      exact ⟨n, kvs, k, rfl, hs, hk, e⟩
    · cases h
  · cases h
theorem setdD_some {x y z : D} {r : D × Sto} (h : setdD x y z S = some r) : ∃ n kvs k, x = .ref n ∧ S[n]? = some (.dk kvs) ∧ keyOf y = some k ∧ kvs.length < line ∧ ((∃ v, valK k kvs = some v ∧ r = (v, S)) ∨ (valK k kvs = none ∧ r = (z, S.set n (.dk (putK k z kvs))))) := by
  unfold setdD at h
  split at h
  · rename_i n
    split at h
    · rename_i kvs hs
      split at h
      · rename_i k hk
        split at h
        · rename_i hl
          split at h
          · rename_i v hv
            cases h
            exact ⟨n, kvs, k, rfl, hs, hk, hl, .inl ⟨v, hv, rfl⟩⟩
          · rename_i hv
            cases h
            exact ⟨n, kvs, k, rfl, hs, hk, hl, .inr ⟨hv, rfl⟩⟩
        · cases h
      · cases h
    · cases h
  · cases h
theorem updD_some {x y : D} {r : D × Sto} (h : updD x y S = some r) : ∃ n m kvs more, x = .ref n ∧ y = .ref m ∧ S[n]? = some (.dk kvs) ∧ S[m]? = some (.dk more) ∧ n ≠ m ∧ kvs.length + more.length ≤ line ∧ r = (.non, S.set n (.dk (more.foldl (fun m kv => putK kv.1 kv.2 m) kvs))) := by
  unfold updD at h
  split at h
  · rename_i n m
    split at h
    · rename_i kvs more h1 h2
      split at h
      · rename_i hz
        cases h
        exact ⟨n, m, kvs, more, rfl, rfl, h1, h2, hz.1, hz.2, rfl⟩
      · cases h
    · cases h
  · cases h
theorem ok_dget (hu : X.A.units + 1 < cLine) (ho : PE X o (rdE W C co)) (ha : PE X a (rdE W C ca)) (hb : PE X b (rdE W C cb)) (hs : notStar a = true) (hs2 : notStar b = true) (hc : isCall o = false) (hl : (ap.endLine == cp.line) = true) :
    PE X (.Call (.Attribute o "get" ap) [a, b] [] cp) (rdE W C (.dget co ca cb)) :=
  (pe_dget2 hu ho ha hb (m2_of hs hs2 hc hl)).w fun σ H Q ⟨ι, S, e, d, S', R, Ve, ev, g⟩ => by
    simp only [evE] at ev
    obtain ⟨x, S1, e1, ev⟩ := bnd_some ev
    split at ev
    · rename_i hd
      obtain ⟨y, S2, e2, ev⟩ := bnd_some ev
      obtain ⟨z, S3, e3, ev⟩ := bnd_some ev
      unfold giv at ev
      obtain ⟨w, e4, e5⟩ := Option.map_eq_some_iff.mp ev
      cases e5
      refine rdE_then R Ve e1 fun ι1 H1 v1 E1 R1 hv1 V1 => ?_
      obtain ⟨p, rfl, hp⟩ := isDk_at hd R1 hv1
      refine ⟨p, rfl, hp, rdE_then R1 V1 e2 fun ι2 H2 v2 E2 R2 hv2 V2 => rdE_then R2 V2 e3 fun ι3 H3 v3 E3 R3 hv3 V3 => ?_⟩
      obtain ⟨n, kvs, k, rfl, hs3, hk, e6⟩ := getD2_some e4
      obtain ⟨p', ep, hp'⟩ := hv1
      cases ep
      obtain ⟨vs, q, r⟩ := R3.ob n _ _ (E3.get (E2.get hp')) hs3
      have gg : DGet H3 p v2 (valV vs k) := by
        rw [← key_v hk (DV.mono E3 R2 _ _ hv2)]
        exact DGet.k q
      refine ⟨_, gg, ?_⟩
      have fin : ∀ u, DV W ι3 H3 _ u → Q u H3 := fun u hu => ((g.thru E1 R1).thru E2 R2 |>.thru E3 R3).here R3 hu
      rcases kv_val r k with ⟨h1, h2⟩ | ⟨d', v', h1, h2, h3⟩
      · rw [h2]
        rw [h1] at e6
        subst e6
        exact fin _ hv3
      · rw [h2]
        rw [h1] at e6
        subst e6
        exact fin _ h3
    · cases ev
theorem ok_dsetd (ho : PE X o (rdE W C co)) (ha : PE X a (rdE W C ca)) (hb : PE X b (rdE W C cb)) (hs : notStar a = true) (hs2 : notStar b = true) (hc : isCall o = false) (hl : (ap.endLine == cp.line) = true) :
    PE X (.Call (.Attribute o "setdefault" ap) [a, b] [] cp) (rdE W C (.dsetd co ca cb)) :=
  (pe_dsetd ho ha hb (m2_of hs hs2 hc hl)).w fun σ H Q ⟨ι, S, e, d, S', R, Ve, ev, g⟩ => by
    simp only [evE] at ev
    obtain ⟨x, S1, e1, ev⟩ := bnd_some ev
    split at ev
    · rename_i hd
      obtain ⟨y, S2, e2, ev⟩ := bnd_some ev
      obtain ⟨z, S3, e3, ev⟩ := bnd_some ev
      refine rdE_then R Ve e1 fun ι1 H1 v1 E1 R1 hv1 V1 => ?_
      obtain ⟨p, rfl, hp⟩ := isDk_at hd R1 hv1
      refine ⟨p, rfl, hp, rdE_then R1 V1 e2 fun ι2 H2 v2 E2 R2 hv2 V2 => rdE_then R2 V2 e3 fun ι3 H3 v3 E3 R3 hv3 V3 => ?_⟩
      have g3 := (g.thru E1 R1).thru E2 R2 |>.thru E3 R3
      obtain ⟨n, kvs, k, rfl, hs3, hk, hlen, hr⟩ := setdD_some ev
      obtain ⟨p', ep, hp'⟩ := hv1
      cases ep
      have hp3 := E3.get (E2.get hp')
      obtain ⟨vs, q, r⟩ := R3.ob n _ _ hp3 hs3
      refine ⟨vs, k, q, (key_v hk (DV.mono E3 R2 _ _ hv2)).symm, by rw [← kvr_len r]; exact hlen, fun v hv => ?_, fun hv => ?_⟩
      · rcases kv_val r k with ⟨h1, h2⟩ | ⟨d', v', h1, h2, h3⟩
        · rw [h2] at hv
          cases hv
        · rw [h2] at hv
          cases hv
          rcases hr with ⟨v0, hv0, er⟩ | ⟨hv0, er⟩
          · rw [h1] at hv0
            cases hv0
            cases er
            exact g3.here R3 h3
          · rw [h1] at hv0
            cases hv0
      · rcases hr with ⟨v0, hv0, er⟩ | ⟨hv0, er⟩
        · rcases kv_val r k with ⟨h1, h2⟩ | ⟨d', v', h1, h2, h3⟩
          · rw [h1] at hv0
            cases hv0
          · rw [h2] at hv
            cases hv
        · cases er
          have hz : ¬ Fz S3[n]? := by
            rw [hs3]
            exact id
          refine g3.set R3 hp3 hz (fun E => ⟨_, upd_same, ?_⟩) hv3
          exact Paired.imp (fun p q z => ⟨z.1, DV.mono E R3 _ _ z.2⟩) (put_kv hv3 r)
    · cases ev
theorem ok_dupd (ho : PE X o (rdE W C co)) (ha : PE X a (rdE W C ca)) (hs : notStar a = true) (hc : isCall o = false) (hl : (ap.endLine == cp.line) = true) :
    PE X (.Call (.Attribute o "update" ap) [a] [] cp) (rdE W C (.dupd co ca)) :=
  (pe_dupd ho ha (m1_of hs hc hl)).w fun σ H Q ⟨ι, S, e, d, S', R, Ve, ev, g⟩ => by
    simp only [evE] at ev
    obtain ⟨x, S1, e1, ev⟩ := bnd_some ev
    split at ev
    · rename_i hd
      obtain ⟨y, S2, e2, ev⟩ := bnd_some ev
      refine rdE_then R Ve e1 fun ι1 H1 v1 E1 R1 hv1 V1 => ?_
      obtain ⟨p, rfl, hp⟩ := isDk_at hd R1 hv1
      refine ⟨p, rfl, hp, rdE_then R1 V1 e2 fun ι2 H2 v2 E2 R2 hv2 V2 => ?_⟩
      have g3 := (g.thru E1 R1).thru E2 R2
      obtain ⟨n, m, kvs, more, rfl, rfl, h1, h2, hnm, hz, er⟩ := updD_some ev
      cases er
      obtain ⟨p', ep, hp'⟩ := hv1
      cases ep
      obtain ⟨q', rfl, hq'⟩ := hv2
      have hp2 := E2.get hp'
      obtain ⟨vs, q1, r1⟩ := R2.ob n _ _ hp2 h1
      obtain ⟨ws, q2, r2⟩ := R2.ob m _ _ hq' h2
      have ne : p ≠ q' := fun z => by
        subst z
        obtain ⟨hn, en⟩ := List.getElem?_eq_some_iff.mp hp2
        obtain ⟨hm, em⟩ := List.getElem?_eq_some_iff.mp hq'
        exact hnm ((List.getElem_inj R2.nd).mp (en.trans em.symm))
      refine ⟨q', vs, ws, rfl, q1, q2, ne, by rw [← kvr_len r1, ← kvr_len r2]; exact hz, ?_⟩
      have hfz : ¬ Fz S2[n]? := by
        rw [h1]
        exact id
      refine g3.set R2 hp2 hfz (fun E => ⟨_, upd_same, ?_⟩) rfl
      exact Paired.imp (fun p q z => ⟨z.1, DV.mono E R2 _ _ z.2⟩) (merge_kv r2 r1)
    · cases ev
/-- new things beside, one of them the store's -/
theorem Rep.lay (R : Rep W ι S H) {p : Addr} (hp : H p = none) (hk : ∀ b u, H b = some u → H' b = some u) {u : Ob} (h : OV W (ι ++ [p]) H' p u) : Rep W (ι ++ [p]) (S ++ [u]) H' ∧ Ext ι S H (ι ++ [p]) (S ++ [u]) H' := by
  have hf := R.fresh hp
  have E : Ext ι S H (ι ++ [p]) (S ++ [u]) H' := by
    refine ⟨⟨[p], rfl, fun a ha o ho => ?_⟩, fun a o h _ _ => hk a o h, fun n h => ?_⟩
    · have e : a = p := by simpa using ha
      rw [e, hp] at ho
      cases ho
    · by_cases hn : n < S.length
      · rw [List.getElem?_append_left hn]
      · rw [List.getElem?_eq_none (by omega)] at h
        exact h.elim
  refine ⟨⟨by simp [R.len], ?_, fun n a o' h1 h2 => ?_, Tabs.own R.tab fun b o h _ => hk b o h⟩, E⟩
  · rw [List.nodup_append]
    refine ⟨R.nd, by simp, fun a ha b hb => ?_⟩
    have e : b = p := by simpa using hb
    rw [e]
    rintro rfl
    exact hf ha
  · by_cases hn : n < ι.length
    · rw [List.getElem?_append_left hn] at h1
      rw [List.getElem?_append_left (by rw [← R.len]; exact hn)] at h2
      have ho := R.ob n a o' h1 h2
      obtain ⟨w, hw, _⟩ := OV.held ho
      exact OV.mono E R ho (by rw [hw]; exact hk a w hw)
    · have e : n = ι.length := by
        have := (List.getElem?_eq_some_iff.mp h1).1
        simp at this
        omega
      subst e
      rw [List.getElem?_append_right (Nat.le_refl _)] at h1
      rw [R.len, List.getElem?_append_right (Nat.le_refl _)] at h2
      simp at h1 h2
      subst h1 h2
      exact h
theorem kyD_v (k : Ky) : DV W ι H (kyD k) (kV k) := by cases k <;> rfl
theorem items_dvs {hi : ∀ (n : Nat) a, ι[n]? = some a → ι'[n]? = some a} {hk : ∀ b u, H b = some u → H' b = some u} : ∀ {kvs : List (Ky × D)} {vs : List (Ky × V)} {ts : List Addr}, Paired (fun (p : Ky × D) (q : Ky × V) => p.1 = q.1 ∧ DV W ι' H' p.2 q.2) kvs vs → Paired (fun (t : Addr) (q : Ky × V) => H' t = some (.tup [kV q.1, q.2])) ts vs → DVs W ι' H' (kvs.map fun kv => .tup [kyD kv.1, kv.2]) (ts.map V.ref)
  | _, _, _, .nil, .nil => rfl
  | _, _, _, .cons (a := a) (b := b) h r, .cons (a := t) ht rt => by
    refine ⟨.ref t, _, rfl, ⟨t, [kV b.1, b.2], rfl, .inl (.inl ht), ⟨_, _, rfl, ?_, ⟨_, _, rfl, h.2, rfl⟩⟩⟩, items_dvs (hi := hi) (hk := hk) r rt⟩
    rw [h.1]
    exact kyD_v _
theorem itmD_some {x : D} {r : D × Sto} (h : itmD x S = some r) : ∃ n kvs, x = .ref n ∧ S[n]? = some (.dk kvs) ∧ r = (.ref S.length, S ++ [.lst (kvs.map fun kv => .tup [kyD kv.1, kv.2])]) := by
  unfold itmD at h
  split at h
  · rename_i n
    split at h
    · rename_i kvs hs
      cases h
      exact ⟨n, kvs, rfl, hs, rfl⟩
    · cases h
  · cases h
theorem ok_ditm {p pos : Pos} (hcalm : X.calm = true) (hg : Gl X "list") (hm : X.mg "list" = none) (ho : PE X o (rdE W C co)) (hc : isCall o = false) (hl : (ap.endLine == cp.line) = true) :
    PE X (.Call (.Name "list" p) [.Call (.Attribute o "items" ap) [] [] cp] [] pos) (rdE W C (.ditm co)) :=
  (LiI.pe_listItems hcalm ho hg hm boot_list (base_of hc) hl rfl).w fun σ H Q ⟨ι, S, e, d, S', R, Ve, ev, g⟩ => by
    simp only [evE] at ev
    obtain ⟨x, S1, e1, ev⟩ := bnd_some ev
    refine rdE_then R Ve e1 fun ι1 H1 v1 E1 R1 hv1 V1 => ?_
    obtain ⟨n, kvs, rfl, hs, er⟩ := itmD_some ev
    cases er
    obtain ⟨a, rfl, ha⟩ := hv1
    obtain ⟨vs, q, r⟩ := R1.ob n _ _ ha hs
    refine ⟨a, vs, rfl, q, fun H' p ts hk hp _ _ hl ht => ?_⟩
    have hi : ∀ (n : Nat) b, ι1[n]? = some b → (ι1 ++ [p])[n]? = some b := fun n b h => by
      rw [List.getElem?_append_left (List.getElem?_eq_some_iff.mp h).1]
      exact h
    have hdv : DVs W (ι1 ++ [p]) H' (kvs.map fun kv => .tup [kyD kv.1, kv.2]) (ts.map V.ref) :=
      items_dvs (hi := hi) (hk := hk) (Paired.imp (fun _ _ z => ⟨z.1, DV.gen hi (fun a o h _ => hk a o h) _ _ z.2⟩) r) ht
    obtain ⟨R2, E2⟩ := Rep.lay (u := .lst (kvs.map fun kv => .tup [kyD kv.1, kv.2])) R1 hp hk ⟨_, hl, hdv⟩
    refine (g.thru E1 R1) _ _ _ E2 R2 ⟨p, rfl, ?_⟩
    rw [← R1.len, List.getElem?_append_right (Nat.le_refl _)]
    simp
end
end PC
end
section
set_option Elab.async false
set_option linter.all false
set_option maxRecDepth 100000
set_option maxHeartbeats 4000000
/-! PC: set(xs) of numbers, the table known. -/
namespace PC
open PySem PySem.Spec PyProof.Rows
/-- how the set of the first i of xs is known -/
def InS (ns : List Int) (i : Nat) : Int → Bool := fun k => decide (k ∈ ns.take i)
theorem inS_succ {ns : List Int} {i : Nat} (h : i < ns.length) (j : Int) : InS ns (i + 1) j = (InS ns i j || decide (j = ns.getD i 0)) := by
  unfold InS
  have e : ns.getD i 0 = ns[i] := by rw [List.getD_eq_getElem?_getD, List.getElem?_eq_getElem h] <;> rfl
  have e2 : ns.take (i + 1) = ns.take i ++ [ns[i]] := by
    rw [List.take_succ, List.getElem?_eq_getElem h]
    rfl
  rw [e, e2, Bool.eq_iff_iff]
  simp only [decide_eq_true_eq, Bool.or_eq_true, List.mem_append, List.mem_singleton]
section
variable {prog : Program} {w : World} {A : Around} {R : Result → Shared → Prop} {I : Addr} {fp wr : List Addr} {G : Array GenState → Array GenState → Prop} {n : Nat} {P : Nat → Value → Prop} {St : Nat → Shared → Prop}
theorem set_fill (W : WalksS prog w A.in1 I fp wr G n P St) {D : Addr} (hD : D ∉ fp) {ns : List Int} (hn : ns.length = n) (hval : ∀ i v, P i v → ∃ t, v = .int (ns.getD i 0) t) (hb : n + 1 < scanBound) :
    ∀ (k i : Nat) (s : Shared) (m : Nat), n - i = k → i ≤ n → m ≤ i → St i s → L2.SetR w s.heap D (InS ns i) m →
      (∀ s' m', m' ≤ n → Moved (D :: wr) G s s' → L2.SetR w s'.heap D (InS ns n) m' → R (.ok (.ret .none)) s') →
      codeAny (model prog w) A (.builtin "set.update.loop" ⟨[.ref D, .ref I], []⟩) R s
  | 0, i, s, m, hk, hi, hm, hst, hS, hR => by
    have hDw : D ∉ wr := fun h => hD (W.sub _ h)
    obtain rfl : i = n := by omega
    refine codeAny_builtin PyProof.Rows.F.entry_set_update_loop ?_
    rw [Around.under_plainId PyProof.Rows.F.plain_set_update_loop _]
    show wpAny _ A.in1 (pyNext (.ref I) >>= _) _ _ s
    refine wpAny_bind (W.done s _ _ hst fun s1 mv => ?_)
    show wpAny _ A.in1 (ret Value.none) _ _ s1
    refine wpAny_pure (hR s1 m hm (mv.mono fun b hb => List.mem_cons_of_mem _ hb) (hS.at fun o e => mv.heap D _ hDw e))
  | k + 1, i, s, m, hk, hi, hm, hst, hS, hR => by
    have hDw : D ∉ wr := fun h => hD (W.sub _ h)
    have hlt : i < n := by omega
    refine codeAny_builtin PyProof.Rows.F.entry_set_update_loop ?_
    rw [Around.under_plainId PyProof.Rows.F.plain_set_update_loop _]
    show wpAny _ A.in1 (pyNext (.ref I) >>= _) _ _ s
    refine wpAny_bind (W.item i s _ _ hlt hst fun v s1 hP hst1 mv => ?_)
    obtain ⟨t, rfl⟩ := hval i v hP
    have hS1 : L2.SetR w s1.heap D (InS ns i) m := hS.at fun o e => mv.heap D _ hDw e
    show wpAny _ A.in1 (holding [Value.int (ns.getD i 0) t] (setAdd D (.int (ns.getD i 0) t)) >>= _) _ _ s1
    refine wpAny_bind (wpAny_holding ?_)
    unfold setAdd
    refine wpAny_holding (wpAny_bind ((intKind prog w).pyHash (k := ns.getD i 0) (intKind_is _ _ _ _) ?_))
    refine L2.setR_add_hashed (s := { s1 with toks := s1.toks + 1 }) hS1 (by omega) fun h' sb hS2 => ?_
    have hS3 : L2.SetR w h' D (InS ns (i + 1)) (if InS ns i (ns.getD i 0) = true then m else m + 1) := hS2.congr fun j => inS_succ (by omega) j
    refine wpAny_pure ⟨plainId_quiet PyProof.Rows.F.plain_set_update_loop _, set_fill W hD hn hval hb k (i + 1) _ _ (by omega) hlt (by split <;> omega) (W.frame _ s1 _ _ hst1 (Nat.le_succ _) fun b hb o e => ?_) hS3 fun s2 m' hm' mv2 q => ?_⟩
    · rw [sb.2 b fun z : b = D => hD (z ▸ hb)]
      exact e
    · refine hR s2 m' hm' (Moved.trans W.gtrans ((mv.mono fun b hb => List.mem_cons_of_mem _ hb).then_heap (Nat.le_succ _) fun b o hb e => ?_) mv2) q
      rw [sb.2 b fun z : b = D => hb (z ▸ List.mem_cons_self)]
      exact e
end
section
variable {prog : Program} {w : World} {A : Around} {E : Value → Shared → Prop} {s : Shared}
theorem code_set1 (a : Value) {Q : Value → Shared → Prop} (h : Q (.ref s.heap.objs.size) { s with heap := s.heap.push { cls := .type "set", dict := none, data := .set #[] 0 (.fresh 0 0 (!w.params.followText "set-order")) } }) :
    codeAny (model prog w) A (.call (.builtin "set.__new__") ⟨[.type "set", a], []⟩) (wants Q E) s := by
  refine codeAny_of_tree ?_
  show wpAny _ A.in1 (do checkBuiltinCall "set.__new__" ⟨[.type "set", a], []⟩; again (.builtin "set.__new__" ⟨[.type "set", a], []⟩)) _ _ s
  refine wpAny_bind (wpAny_of_eq (PySem.F.newCall_set_1 a) (wpAny_pure ⟨plainId_quiet PySem.F.plain_set_new _, codeAny_builtin PySem.F.entry_set_new ?_⟩))
  rw [Around.under_plainId PySem.F.plain_set_new _]
  unfold Builtin.«set.__new__» Builtin.Frozenset.newClass
  have hsub := sub_set_self
  obtain ⟨hp, g, d, tk, os⟩ := s
  dsimp only
  wp_walk
  refine wpAny_askSetting (wpAny_pure ?_)
  dsimp only
  simp only [newObj]
  exact wpAny_bind (wpAny_alloc (wpAny_pure (wpAny_pure h)))
theorem set_list {l : Addr} {items : Array Value} {ns : List Int} {Q : Value → Shared → Prop} (hh : A.handled = none) (hl : s.heap.IsList l items) (hi : IntsAre items.toList ns) (hb : items.size + 1 < scanBound)
    (h : ∀ (h' : Heap) (tk m : Nat), m ≤ items.size → L2.SetR w h' s.heap.objs.size (fun k => decide (k ∈ ns)) m → (∀ b o, b < s.heap.objs.size → s.heap.get? b = some o → h'.get? b = some o) → Q (.ref s.heap.objs.size) { s with heap := h', toks := tk }) :
    wpAny (model prog w) A (call (.type "set") [.ref l]) Q E s := by
  obtain ⟨c, tl, hmro⟩ := PySem.F.called_set.mro
  have hmade := PySem.F.called_set.made
  have hsub := PySem.F.called_set.sub
  have hnl : ns.length = items.size := by rw [← hi.length]; simp
  refine wpAny_call (codeAny_of_tree ?_)
  show wpAny _ _ (callAny (.type "set") _) _ _ _
  refine wpAny_pure ⟨Code.quiet_builtin _ (by decide +kernel), codeAny_builtin PySem.F.entry_type_call ?_⟩
  rw [Around.under_plain (weight_type_call_type "set" [.ref l] []) rfl]
  have h1 := PySem.F.called_set.notType
  have h2 := PySem.F.called_set.canCreate
  have hct := PySem.F.typeCall_set_1 (.ref l)
  repeat (any_goals (first | assumption | wp_step))
  refine codeAny_mono (code_set1 (.ref l) (E := E) (Q := fun obj s₁ => obj = .ref s.heap.objs.size ∧ s₁ = { s with heap := s.heap.push { cls := .type "set", dict := none, data := .set #[] 0 (.fresh 0 0 (!w.params.followText "set-order")) } }) ⟨rfl, rfl⟩) fun r s₁ hr => ?_
  generalize hO : ({ cls := .type "set", dict := none, data := .set #[] 0 (.fresh 0 0 (!w.params.followText "set-order")) } : Obj) = O at hr
  have hfr : L2.SetR w (s.heap.push O) s.heap.objs.size (fun _ => false) 0 := hO ▸ L2.setR_fresh w
  have hOf : O.isFreed = false := by rw [← hO]; rfl
  have hOc : O.cls = .type "set" := by rw [← hO]
  cases r with
  | error e => exact hr
  | ok fl =>
    cases fl with
    | ret obj =>
      obtain ⟨rfl, rfl⟩ := hr
      have hS : (s.heap.push O).get? s.heap.objs.size = some O := Heap.get?_push_size _ hOf
      have hT : Shared.TypeIs { s with heap := s.heap.push O } (.ref s.heap.objs.size) "set" := ⟨_, hS, hOc⟩
      have hli := PySem.F.called_set.init.lookup
      have hbi := PySem.F.called_set.init.bind (.ref s.heap.objs.size)
      repeat (any_goals (first | assumption | wp_step))
      refine codeAny_mono (codeAny_call_builtin (R := wants (fun r s₂ => r = .none ∧ ∃ h' tk m, s₂ = { s with heap := h', toks := tk } ∧ m ≤ items.size ∧ L2.SetR w h' s.heap.objs.size (fun k => decide (k ∈ ns)) m ∧ ∀ b o, b < s.heap.objs.size → s.heap.get? b = some o → h'.get? b = some o) E)
        PySem.F.called_set.init.plain PySem.F.entry_set_init (check_set_init_1 hT ?_)) fun r₂ s₂ hr₂ => ?_
      · obtain ⟨ol, hol, hcl, nl, hdl⟩ := hl
        obtain ⟨ocls, odict, odata, oslots⟩ := ol
        simp only at hcl hdl
        subst hcl hdl
        have hol' : (s.heap.push O).get? l = some { cls := .type "list", dict := odict, data := .seq items nl, slots := oslots } := Heap.get?_push_of_some _ hol
        have hsls := PySem.F.sub_list_set
        have hslf := PySem.F.sub_list_frozenset
        have hne : (Value.type "list" == Value.type "dict") = false := by decide
        have hl1 : (s.heap.push O).IsList l items := ⟨_, hol', rfl, nl, rfl⟩
        have hlS : l < s.heap.objs.size := Heap.lt_size hol
        have hlow : ∀ b, b < s.heap.objs.size → b ≠ (s.heap.push O).objs.size := fun b hb => by
          rw [Heap.size_push]
          exact Nat.ne_of_lt (Nat.lt_succ_of_lt hb)
        have hneI := hlow l hlS
        have hSf : s.heap.objs.size ∉ [(s.heap.push O).objs.size, l] := by
          rw [Heap.size_push]
          simp only [List.mem_cons, List.not_mem_nil, or_false, not_or]
          exact ⟨Nat.ne_of_lt (Nat.lt_succ_self _), Nat.ne_of_gt hlS⟩
        subst hO
        unfold Builtin.«set.__init__» noKeywords Builtin.Frozenset.updateFrom
        generalize hPI : pyIter = PI
        wp_walk
        subst hPI
        refine wpAny_pyIter_list hl1 ?_
        refine wpAny_bind (wpAny_runValue ?_)
        have hh3 : A.in1.in1.in1.handled = none := by simp [hh]
        refine set_fill ((Walks.list hh3 _ l hneI items).toS) hSf hnl (fun i v hv => IntsAre.int_at hi i v (by rw [Array.getElem?_toList]; exact hv)) hb (items.size - 0) 0 _ 0 (by omega) (Nat.zero_le _) (Nat.zero_le _)
          ⟨⟨_, Heap.get?_push_size _ rfl, rfl, rfl⟩, (hl1.push _)⟩ ?hS0 ?hR
        case hS0 =>
          refine (hfr.at fun o e => Heap.get?_push_of_some _ e).congr fun k => ?_
          unfold InS
          simp
        case hR =>
          intro s' m hm mv hS'
          obtain ⟨h', g', d', tk', os'⟩ := s'
          have eg : g' = s.gens := mv.gens
          have ed : d' = s.drawn := mv.drawn
          have eo : os' = s.os := mv.os
          subst eg ed eo
          show wpAny _ _ _ _ _ _
          refine wpAny_pure ?_
          show wpAny _ _ (ret Value.none) _ _ _
          refine wpAny_pure ⟨rfl, h', tk', m, rfl, hm, hS'.congr fun k => ?_, fun b o hb e => ?_⟩
          · unfold InS
            rw [← hnl, List.take_length]
          · have hb1 : b ≠ s.heap.objs.size := Nat.ne_of_lt hb
            have hb2 := hlow b hb
            exact mv.heap b o (by simp only [List.mem_cons, List.not_mem_nil, or_false, not_or]; exact ⟨hb1, hb2⟩) (Heap.get?_push_of_some _ (Heap.get?_push_of_some _ e))
      · cases r₂ with
        | error e => exact hr₂
        | ok fl₂ =>
          cases fl₂ with
          | ret r =>
            obtain ⟨rfl, h', tk, m, rfl, hm, hS', hk'⟩ := hr₂
            repeat (any_goals (first | assumption | wp_step))
            exact h _ _ _ hm hS' hk'
          | _ => exact hr₂.elim
    | _ => exact hr.elim
end
end PC
end
section
set_option Elab.async false
set_option linter.all false
set_option maxRecDepth 100000
set_option maxHeartbeats 4000000
/-! PC: sorted(d.items()), sorted(set(xs)). -/
namespace PC
open PySem L2
section
variable {W : Wd} {C : Cal} {ι ι' ι1 : List Addr} {S S' S1 : Sto} {H H' H1 : Hp} {X : Cx} {o a : Expr} {co ca : CE} {ap cp p pos : Pos}
theorem srtItm_some {x : D} {r : D × Sto} (h : srtItmD x S = some r) : ∃ n kvs ts, x = .ref n ∧ S[n]? = some (.dk kvs) ∧ optMap kyS (kvs.map (·.1)) = some ts ∧ ts.Nodup ∧ kvs.length ≤ line ∧ r = (.ref S.length, S ++ [.lst (srtL (fun a b => ltS (keyT a) (keyT b)) (kvs.map fun kv => .tup [kyD kv.1, kv.2]))]) := by
  unfold srtItmD at h
  split at h
  · rename_i n
    split at h
    · rename_i kvs hs
      split at h
      · rename_i ts ht
        split at h
        · rename_i hw
          cases h
          exact ⟨n, kvs, ts, rfl, hs, ht, hw.1, hw.2, rfl⟩
        · cases h
      · cases h
    · cases h
  · cases h
/-- the pairs laid at as -/
theorem kdx_tups {pins : List (Addr × Obj)} {σ : L2.St} {s : Shared} {h' : Heap} {tk : Nat} {kvs : List (Key × V)} {vs : List (Key × Value)} {as : List Addr} (I : Inv X pins σ H s) (kv : KV kvs vs) (hk : ∀ b o, s.heap.get? b = some o → h'.get? b = some o) (hl : as.length = vs.length) (hG : PySem.W.KdxG (mixKind X.prog X.w) vs s.heap.objs.size h' as) :
    ∃ H', (∀ b u, H b = some u → H' b = some u) ∧ Inv X pins σ H' { s with heap := h', toks := tk } ∧ ∀ (j : Nat) (t : Addr), as[j]? = some t → ∃ q, kvs[j]? = some q ∧ H' t = some (.tup [kV q.1, q.2]) ∧ ∃ key x, RelV (kV q.1) key ∧ RelV q.2 x ∧ h'.get? t = some { cls := .type "tuple", data := .seq #[key, x] } := by
  have pr : ∀ (j : Nat) (t : Addr), as[j]? = some t → ∃ q key x, kvs[j]? = some q ∧ RelV (kV q.1) key ∧ RelV q.2 x ∧ h'.get? t = some { cls := .type "tuple", data := .seq #[key, x] } := by
    intro j t hj
    obtain ⟨key, k, x, f1, f2, f3⟩ := hG.pairs j t hj
    have hjk : j < kvs.length := by
      rw [Paired.length kv, ← hl]
      exact (List.getElem?_eq_some_iff.mp hj).1
    obtain ⟨qv, g1, g2, g3⟩ := LiI.paired_get kv (List.getElem?_eq_getElem hjk)
    rw [f1] at g1
    cases g1
    refine ⟨_, key, x, List.getElem?_eq_getElem hjk, ?_, g3, f3⟩
    rw [g2]
    exact relV_key (show keyIs k key = true from f2)
  have nd : as.Nodup := hG.rise.imp fun {a b} (h : a < b) => Nat.ne_of_lt h
  obtain ⟨H2, I2, g, q⟩ := L2.DX.takeT (P := fun t ws => ∃ (j : Nat) (q : Key × V), as[j]? = some t ∧ kvs[j]? = some q ∧ ws = [kV q.1, q.2]) I as H (I.kept (t' := tk) hk) nd fun t ht => by
    obtain ⟨j, hj⟩ := List.mem_iff_getElem?.mp ht
    obtain ⟨q, key, x, f1, f2, f3, f4⟩ := pr j t hj
    refine ⟨Nat.le_of_lt (hG.above t ht), I.hok.fresh (Nat.le_of_lt (hG.above t ht)), _, ⟨j, q, hj, f1, rfl⟩, fun H2 => ⟨by show 2 ≤ sizeLine; decide, [key, x], .cons f2 (.cons f3 .nil), ⟨_, f4, rfl, _, rfl⟩⟩⟩
  refine ⟨H2, g, I2, fun j t hj => ?_⟩
  obtain ⟨ws, ⟨j', q', e1, e2, e3⟩, e4⟩ := q t (List.mem_iff_getElem?.mpr ⟨j, hj⟩)
  obtain ⟨h1, h2⟩ := List.getElem?_eq_some_iff.mp hj
  obtain ⟨h3, h4⟩ := List.getElem?_eq_some_iff.mp e1
  have ej : j' = j := (List.getElem_inj nd).mp (h4.trans h2.symm)
  subst ej
  obtain ⟨q, key, x, f1, f2, f3, f4⟩ := pr _ t hj
  rw [f1] at e2
  cases e2
  exact ⟨q', f1, by rw [e4, e3], key, x, f2, f3, f4⟩
theorem itm_tups {h' : Heap} : ∀ {kvs : List (Ky × D)} {ws : List (Ky × V)} {ts : List Str} {as : List Addr}, Paired (fun (p : Ky × D) (q : Ky × V) => p.1 = q.1 ∧ DV W ι H p.2 q.2) kvs ws → optMap kyS (kvs.map (·.1)) = some ts → as.length = ws.length →
    (∀ (j : Nat) (t : Addr), as[j]? = some t → ∃ q, ws[j]? = some q ∧ H t = some (.tup [kV q.1, q.2]) ∧ ∃ key x, RelV (kV q.1) key ∧ RelV q.2 x ∧ h'.get? t = some { cls := .type "tuple", data := .seq #[key, x] }) →
    Paired (TupP W ι H h') (kvs.map fun kv => .tup [kyD kv.1, kv.2]) (as.map Value.ref) ∧ (as.map Value.ref).map (keyH h') = ts
  | _, _, _, [], .nil, h, _, _ => by
    cases h
    exact ⟨.nil, rfl⟩
  | _, _, _, _ :: _, .nil, _, hl, _ => by cases hl
  | _, _, _, [], .cons _ _, _, hl, _ => by cases hl
  | _, _, ts, t :: as, .cons (a := kd) (b := q) h1 tl, h, hl, hp => by
    obtain ⟨y, r, rfl, e1, e2⟩ := optMap_cons (show optMap kyS (kd.1 :: _) = some ts from h)
    obtain ⟨k1, k2⟩ := itm_tups tl e2 (Nat.succ.inj hl) fun j t' hj => hp (j + 1) t' hj
    obtain ⟨q', f1, f2, key, x, f3, f4, f5⟩ := hp 0 t rfl
    cases f1
    obtain ⟨kk, dd⟩ := kd
    obtain ⟨qk, qv⟩ := q
    obtain ⟨e3, hd⟩ := h1
    simp only at e1 e3 hd f2 f3 f4
    have ek : kk = .inr y := kyS_some e1
    subst ek
    subst e3
    obtain ⟨tk, rfl⟩ : ∃ tk, key = Value.str y tk := f3
    have ht : SrtO.IsTupS h' (.ref t) y := ⟨t, _, tk, [x], _, rfl, f5, rfl, rfl⟩
    refine ⟨.cons ⟨⟨y, rfl, ht⟩, ⟨t, [.str y, qv], rfl, .inl (.inl f2), ⟨.str y, _, rfl, rfl, ⟨qv, _, rfl, hd, rfl⟩⟩⟩⟩ k1, ?_⟩
    rw [List.map_cons, List.map_cons, k2, keyH_of ht]
theorem ok_sitm (hcalm : X.calm = true) (hK : X.K = W.K) (hg : Gl X "sorted") (hm : X.mg "sorted" = none) (ho : PE X o (rdE W C co)) (hc : isCall o = false) (hln : (ap.endLine == cp.line) = true) :
    PE X (.Call (.Name "sorted" p) [.Call (.Attribute o "items" ap) [] [] cp] [] pos) (rdE W C (.srtItm co)) := by
  refine ⟨fun pins s σ H Q I hq => ?_⟩
  obtain ⟨ι, S, e, d, S', R, Ve, ev, g⟩ := hq
  simp only [evE] at ev
  obtain ⟨x0, S1, e1, ev⟩ := bnd_some ev
  refine wpAny_Call_Name_kw (ld_blt I hg hm PyProof.Rows.boot_sorted ?_)
  refine PyProof.Rows.callWith_builtin1 ?_ rfl rfl
  refine Calls.spliced_cons ?_
  refine wpAny_Call_method (T := "dict") (id := "dict.items") (base_of hc) rfl hln PySem.F.plainAttrs_dict PySem.F.slot_dict_items PySem.F.type_dict_items (thn (ho.run pins s σ H (fun v H1 => ∃ ι1, Ext ι S H ι1 S1 H1 ∧ Rep W ι1 S1 H1 ∧ DV W ι1 H1 x0 v) I (rdE_then R Ve e1 fun ι1 H1 v E1 R1 hv _ => ⟨ι1, E1, R1, hv⟩)) fun u s1 ⟨v, H1, I1, rx, ι1, E1, R1, hv⟩ => ?_)
  obtain ⟨n, kvs, ts, rfl, hs, ht, hnd, hlen, er⟩ := srtItm_some ev
  cases er
  obtain ⟨da, rfl, hda⟩ := hv
  obtain rfl : u = Value.ref da := rx
  obtain ⟨ws, hd, kvr⟩ := R1.ob n da _ hda hs
  obtain ⟨hz, hs0, vs, kv, hdo⟩ := I1.hok da _ hd
  obtain ⟨ep, hat⟩ := hdo.dictAt
  have lk : ws.length = vs.length := Paired.length kv
  have lk2 : kvs.length = ws.length := Paired.length kvr
  have I2 : L2.Inv X pins σ H1 { s1 with heap := s1.heap.push { cls := .type "dict_items", data := .fields #[.ref da] } } := I1.kept (t' := s1.toks) fun b ob q => Heap.get?_push_of_some _ q
  refine ⟨hdo.typeIs, hdo.mapOf.noDict, ?_⟩
  show wpAny _ _ (callWith cp (.builtin "dict.items") [.ref da] [] []) _ X.xe s1
  refine method_meetsIn PySem.F.slot_dict_items PySem.F.entry_dict_items rfl (PySem.evalArgs_none ⟨rfl, hdo.typeIs, PySem.F.args_dict_items_1 _, _, meets_dict_items (mixKind X.prog X.w) da hs0, ⟨vs, hdo⟩, ?_⟩)
  refine Calls.spliced_nil ?_
  refine Calls.call_function_entry PyProof.Rows.kind_sorted PyProof.Rows.plain_sorted PyProof.Rows.entry_sorted (PyProof.Rows.args_sorted1 _) ?_
  unfold Builtin.«sorted»
  refine wpAny_bind (m := checkCount "sorted" 1 1 _) (wpAny_pure ?_)
  refine wpAny_bind (PySem.W.kdx_collect (A := X.A.in1) (knd := mixKind X.prog X.w) (kvs := vs) (ep := ep) (I1.ok.hd hcalm) ⟨_, Heap.get?_push_size _ rfl, rfl, rfl⟩ (hat.push _) (by omega) fun h' tk as hk hl hG => ?_)
  obtain ⟨H2, k1, I3, k2⟩ := kdx_tups (tk := tk) I2 kv hk hl hG
  have hz2 : (as.map Value.ref).length ≤ sizeLine := by
    rw [List.length_map, hl, ← lk]
    exact hz
  refine wpAny_bind (wpAny_newList ?_ hz2)
  have kvr2 : Paired (fun (p : Ky × D) (q : Ky × V) => p.1 = q.1 ∧ DV W ι1 H2 p.2 q.2) kvs ws := Paired.imp (fun _ _ z => ⟨z.1, DV.gen (fun _ _ h => h) (fun a o h _ => k1 a o h) _ _ z.2⟩) kvr
  obtain ⟨q1, q2⟩ := itm_tups (h' := h') kvr2 ht (by omega) k2
  have hob : (h'.push (PyProof.Rows.seqObj "list" (as.map Value.ref).toArray 0)).get? h'.objs.size = some (PyProof.Rows.seqObj "list" (as.map Value.ref).toArray 0) := Heap.get?_push_size _ rfl
  have ka : ∀ b o, h'.get? b = some o → (h'.push (PyProof.Rows.seqObj "list" (as.map Value.ref).toArray 0)).get? b = some o := fun b o e => Heap.get?_push_of_some _ e
  have hp0 : ∀ v ∈ as.map Value.ref, SrtO.IsTupS h' v (keyH h' v) := fun v hv => by
    obtain ⟨y, ⟨⟨x, _, h2⟩, _⟩⟩ := flip_ix q1 v hv
    rw [keyH_of h2]
    exact h2
  have hdd : ∀ v ∈ as.map Value.ref, ∀ u ∈ as.map Value.ref, keyH h' v = keyH h' u → v = u := inj_of_nodup (by rw [q2]; exact hnd)
  show wpAny _ _ _ _ _ { s1 with heap := h'.push (PyProof.Rows.seqObj "list" (as.map Value.ref).toArray 0), toks := tk }
  refine wpAny_bind (wpAny_holding (wpAny_call_entry PyProof.Rows.slot_list_sort ⟨_, hob, rfl⟩ PyProof.Rows.entry_list_sort
    (SrtO.list_sort_ord (s := { s1 with heap := h'.push (PyProof.Rows.seqObj "list" (as.map Value.ref).toArray 0), toks := tk }) (swo_str (keyH h')) hob hz2 (fun h2 => SrtO.tups_sortable (k := keyH h') (by omega) (fun v hv => (hp0 v hv).keeps fun b o e _ => ka b o e) hdd fun o e c => ?_) fun out hs1 hb => ⟨_, rfl, ?_⟩) (PyProof.Rows.args_list_sort _)))
  · rw [hob] at e
    cases e
    exact absurd (Value.type.inj c) (by decide)
  have eo : out = srtL (fun v u => ltS (keyH h' v) (keyH h' u)) (as.map Value.ref) := srt_uniq (swo_str _) hb.perm hs1 fun v hv u hu h1 h2 => hdd v hv u hu (ltS_anti h1 h2)
  have pp := srtL_paired (f := fun a b => ltS (keyT a) (keyT b)) (g := fun v u => ltS (keyH h' v) (keyH h' u)) tupP_lt q1
  rw [← eo] at pp
  obtain ⟨p1, p2⟩ := tupP_dvs pp
  obtain ⟨n', hn'⟩ := PyProof.Rows.sortedHeap_at (vs := as.map Value.ref) (out := out.toArray) hob
  have hf : H2 h'.objs.size = none := I3.hok.fresh (Nat.le_refl _)
  have hf1 : H1 h'.objs.size = none := by
    cases q : H1 h'.objs.size with
    | none => rfl
    | some u =>
      rw [k1 _ _ q] at hf
      cases hf
  have kp : ∀ b u, H1 b = some u → upd H2 h'.objs.size (.lst (out.map backV)) b = some u := fun b u e => by
    rw [upd_ne (ne_of_none e hf1)]
    exact k1 b u e
  have hi : ∀ (n : Nat) b, ι1[n]? = some b → (ι1 ++ [h'.objs.size])[n]? = some b := fun n b h => by
    rw [List.getElem?_append_left (List.getElem?_eq_some_iff.mp h).1]
    exact h
  have hdv : DVs W (ι1 ++ [h'.objs.size]) (upd H2 h'.objs.size (.lst (out.map backV))) (srtL (fun a b => ltS (keyT a) (keyT b)) (kvs.map fun kv => .tup [kyD kv.1, kv.2])) (out.map backV) := DVs.gen hi (fun a o h _ => by
    rw [upd_ne (ne_of_none h hf)]
    exact h) _ _ p1
  obtain ⟨R2, E2⟩ := Rep.lay (u := .lst (srtL (fun a b => ltS (keyT a) (keyT b)) (kvs.map fun kv => .tup [kyD kv.1, kv.2]))) R1 hf1 kp ⟨_, upd_same, hdv⟩
  refine wpAny_pure ⟨_, rfl, .ref h'.objs.size, upd H2 h'.objs.size (.lst (out.map backV)), I3.laid (t' := tk) (fun b u e => ?_) (Nat.le_refl _) ⟨?_, out, n', vals_back p2, hn'⟩, rfl, (g.thru E1 R1) _ _ _ E2 R2 ⟨_, rfl, ?_⟩⟩
  · have hb2 : b < h'.objs.size := Heap.lt_size e
    rw [PyProof.Rows.sortedHeap_old (Nat.ne_of_lt hb2) (by rw [Heap.size_push]; exact Nat.lt_succ_of_lt hb2)]
    exact ka b u e
  · rw [List.length_map, hb.len]
    exact hz2
  · rw [← R1.len, List.getElem?_append_right (Nat.le_refl _)]
    simp
/-! ### sorted(set(xs)) -/
def rSetL (K : PySem.W.Frag) (w : World) : List V → Hp → VK → Prop := fun vs H Q => ∃ (l : Addr) (ns : List Int), vs = [V.ref l] ∧ SqL K H l (ns.map V.int) ∧ ns.length < 64 ∧ ∀ q m, H q = none → m ≤ ns.length → Q (.ref q) (upd H q (SetO w q (fun k => decide (k ∈ ns)) m))
theorem cr_setL (hc : X.calm = true) : CallR X (.type "set") (rSetL X.K X.w) := by
  intro pins s σ H vs us Q I r h
  obtain ⟨l, ns, rfl, hq, h64, q⟩ := h
  obtain ⟨its, rv, pl, hz⟩ := I.list hq
  rw [Vals.ref1 r]
  have hlen : its.toArray.size = ns.length := by rw [List.size_toArray, ← rv.length, List.length_map]
  refine set_list (I.ok.hd hc) pl.isList (ns := ns) (by simpa using rv.ints) (by rw [hlen]; unfold scanBound; omega) fun h' tk m hm hS hk => ?_
  exact ⟨.ref _, upd H s.heap.objs.size (SetO X.w s.heap.objs.size (fun k => decide (k ∈ ns)) m), I.laid (t' := tk) (fun b o e => hk b o (Heap.lt_size e) e) (Nat.le_refl _) (setO_new hS), rfl, q _ m (I.hok.fresh (Nat.le_refl _)) (by rw [← hlen]; exact hm)⟩
theorem onceI_mem {k : Int} : ∀ {ns : List Int}, k ∈ onceI ns ↔ k ∈ ns
  | [] => Iff.rfl
  | i :: r => by
    unfold onceI
    split
    · rename_i hi
      rw [onceI_mem, List.mem_cons]
      exact ⟨.inr, fun h => h.elim (fun e => e ▸ hi) id⟩
    · rw [List.mem_cons, List.mem_cons, onceI_mem]
theorem onceI_nodup : ∀ ns : List Int, (onceI ns).Nodup
  | [] => List.nodup_nil
  | i :: r => by
    unfold onceI
    split
    · exact onceI_nodup r
    · rename_i hi
      exact List.nodup_cons.mpr ⟨fun h => hi (onceI_mem.mp h), onceI_nodup r⟩
theorem srt_once {l ns : List Int} (hs : l.Pairwise (· < ·)) (hm : ∀ k : Int, k ∈ l ↔ k ∈ ns) : l = srtL ltI (onceI ns) := by
  refine srt_ints ?_ (hs.imp fun h => Int.le_of_lt h)
  exact (List.perm_ext_iff_of_nodup (hs.imp fun h => Int.ne_of_lt h) (onceI_nodup ns)).mpr fun k => (hm k).trans onceI_mem.symm
theorem srtSet_some {x : D} {r : D × Sto} (h : srtSetD x S = some r) : ∃ xs ns, lstD x S = some xs ∧ optMap intD xs = some ns ∧ ns.length < 64 ∧ r = (.ref S.length, S ++ [.lst ((srtL ltI (onceI ns)).map .int)]) := by
  unfold srtSetD at h
  split at h
  · rename_i ns hn
    obtain ⟨xs, h1, h2⟩ := Option.bind_eq_some_iff.mp hn
    split at h
    · rename_i hw
      cases h
      exact ⟨xs, ns, h1, h2, hw, rfl⟩
    · cases h
  · cases h
theorem ok_sset {p2 q2 : Pos} (hcalm : X.calm = true) (hK : X.K = W.K) (hg : Gl X "sorted") (hm : X.mg "sorted" = none) (hg2 : Gl X "set") (hm2 : X.mg "set" = none) (ha : PE X a (rdE W C ca)) (hs : notStar a = true) :
    PE X (.Call (.Name "sorted" p) [.Call (.Name "set" p2) [a] [] q2] [] pos) (rdE W C (.srtSet ca)) :=
  (pe_callB (t := tCons (tCB (rSetL X.K X.w) (tCons (rdE W C ca) tNil)) tNil) (cr_sortedSet hcalm) hg hm PyProof.Rows.boot_sorted (pa_cons (pe_callTy (cr_setL hcalm) hg2 hm2 PyProof.Rows.boot_set (pa_cons ha pa_nil (star_cons hs)) (by decide) (by decide) (star_cons hs) (back_any rfl)) pa_nil (star_cons rfl)) (by decide) (by decide) (star_cons rfl) (back_any rfl)).w fun σ H Q ⟨ι, S, e, d, S', R, Ve, ev, g⟩ => by
    simp only [evE] at ev
    obtain ⟨x, S1, e1, ev⟩ := bnd_some ev
    obtain ⟨xs, ns, h1, h2, h64, er⟩ := srtSet_some ev
    cases er
    refine rdE_then R Ve e1 fun ι1 H1 v E1 R1 hv V1 => ?_
    obtain ⟨l, vs, rfl, hq, hz⟩ := lst_sq R1 h1 hv
    have ev := ints_of h2 hz
    subst ev
    refine ⟨l, ns, rfl, by rw [hK]; exact hq, h64, fun q m hq2 hm => ?_⟩
    obtain ⟨R2, E2⟩ := R1.put hq2 (SetO X.w q (fun k => decide (k ∈ ns)) m)
    refine ⟨q, _, m, rfl, upd_same, by omega, fun ns' r hs1 hmem _ hr => ?_⟩
    rw [srt_once (ns := ns) hs1 fun k => (hmem k).trans (by simp)]
    exact ((g.thru E1 R1).thru E2 R2).lst R2 (dvs_ints _) hr
end
end PC
end
section
set_option Elab.async false
set_option linter.all false
set_option maxRecDepth 100000
set_option maxHeartbeats 1000000
/-! PC: comprehensions over a dict's keys. -/
namespace PC
open PySem L2
section
variable {W : Wd} {C : Cal} {ι ι' ι1 : List Addr} {S S' S1 S3 : Sto} {H H' H1 : Hp} {e : En} {σ : L2.St} {X : Cx}
theorem lock_rep (R : Rep W ι S H) {n : Nat} {a : Addr} {kvs : List (Ky × D)} {vs : List (Ky × V)} {od : Obj} (hn : ι[n]? = some a) (hs : S[n]? = some (.dk kvs)) (hk : KVr W ι H kvs vs) : Rep W ι (S.set n (.frk kvs)) (upd H a (.frz od (.dK vs))) ∧ Ext ι S H ι (S.set n (.frk kvs)) (upd H a (.frz od (.dK vs))) := by
  obtain ⟨ws, q, _⟩ := R.ob n a _ hn hs
  refine R.write hn (by rw [hs]; exact id) ⟨od, vs, upd_same, ?_⟩
  exact KVr.gen (fun _ _ h => h) (own_keep q trivial) hk
theorem unlock_rep {n : Nat} {a : Addr} {kvs : List (Ky × D)} {vs : List (Ky × V)} {od : Obj} (R0 : Rep W ι S H) (hn : ι[n]? = some a) (hs : S[n]? = some (.dk kvs)) (hk0 : KVr W ι H kvs vs) (E : Ext ι (S.set n (.frk kvs)) (upd H a (.frz od (.dK vs))) ι1 S3 H1) (R : Rep W ι1 S3 H1) :
    H1 a = some (.frz od (.dK vs)) ∧ Rep W ι1 (S3.set n (.dk kvs)) (upd H1 a (.dK vs)) ∧ Ext ι S H ι1 (S3.set n (.dk kvs)) (upd H1 a (.dK vs)) := by
  obtain ⟨RL, E0⟩ := lock_rep (od := od) R0 hn hs hk0
  have hl : n < S.length := (List.getElem?_eq_some_iff.mp hs).1
  have hfz : (S.set n (.frk kvs))[n]? = some (.frk kvs) := List.getElem?_set_self hl
  have h3 : S3[n]? = some (.frk kvs) := (E.fr n (by rw [hfz]; trivial)).trans hfz
  have ha : H1 a = some (.frz od (.dK vs)) := E.keep a _ upd_same (fun ps z => nomatch z) fun _ => ⟨n, hn, by rw [hfz]; trivial⟩
  have hn1 : ι1[n]? = some a := E.get hn
  have hk : KVr W ι1 H1 kvs vs := by
    obtain ⟨o', vs', q, r⟩ := R.ob n a _ hn1 h3
    rw [ha] at q
    cases q
    exact r
  have keep := own_keep (u' := .dK vs) ha trivial
  refine ⟨ha, ⟨by rw [List.length_set]; exact R.len, R.nd, fun m b o h1 h2 => ?_, own_tab ha trivial R.tab⟩, ⟨(E0.trans RL E).pre, fun b o h nt k => ?_, fun m h => ?_⟩⟩
  · by_cases e : m = n
    · subst e
      rw [hn1] at h1
      cases h1
      rw [List.getElem?_set_self (List.getElem?_eq_some_iff.mp h3).1] at h2
      cases h2
      exact ⟨vs, upd_same, KVr.gen (fun _ _ h => h) keep hk⟩
    · rw [List.getElem?_set_ne (Ne.symm e)] at h2
      refine OV.gen (fun _ _ h => h) keep (R.ob m b o h1 h2) (upd_ne ?_)
      rintro rfl
      obtain ⟨q1, q2⟩ := List.getElem?_eq_some_iff.mp h1
      obtain ⟨q3, q4⟩ := List.getElem?_eq_some_iff.mp hn1
      exact e ((List.getElem_inj R.nd).mp (q2.trans q4.symm))
  · have nb : b ≠ a := by
      rintro rfl
      obtain ⟨m, hm, hf⟩ := k (List.mem_iff_getElem?.mpr ⟨n, hn⟩)
      obtain ⟨q1, q2⟩ := List.getElem?_eq_some_iff.mp hm
      obtain ⟨q3, q4⟩ := List.getElem?_eq_some_iff.mp hn
      have em : m = n := (List.getElem_inj R0.nd).mp (q2.trans q4.symm)
      rw [em, hs] at hf
      exact hf
    rw [upd_ne nb]
    exact (E0.trans RL E).keep b o h nt k
  · have nm : m ≠ n := by
      rintro rfl
      rw [hs] at h
      exact h
    rw [List.getElem?_set_ne (Ne.symm nm)]
    exact (E0.trans RL E).fr m h
theorem wk_keys {n : Nat} {a : Addr} {kvs : List (Ky × D)} {vs : List (Ky × V)} {od : Obj} (R1 : Rep W ι1 S1 H1) (ha : ι1[n]? = some a) (hs : S1[n]? = some (.frk kvs)) (hv : H1 a = some (.frz od (.dK vs))) (hk : KVr W ι1 H1 kvs vs) : WkD W (Itk a od vs) (kvs.map fun kv => kyD kv.1) ι1 S1 H1 := by
  have hl : (kvs.map fun kv => kyD kv.1).length = vs.length := by
    rw [List.length_map]
    exact Paired.length hk
  refine ⟨_, _, hl.symm ▸ walk_keys (d := a) (o := od) (kvs := vs), fun ι S H E R => ⟨?_, fun i x H' hi hy => ?_⟩⟩
  · exact E.keep a _ hv (fun ps z => nomatch z) fun _ => ⟨n, ha, by rw [hs]; trivial⟩
  · obtain ⟨rfl, k, v, e1, rfl⟩ := hy
    refine ⟨R, .refl, ?_⟩
    have hi' : i < kvs.length := by simpa using hi
    obtain ⟨q, h1, h2⟩ := LiI.paired_get hk (List.getElem?_eq_getElem hi')
    rw [e1] at h1
    cases h1
    refine ⟨kyD kvs[i].1, ?_, ?_⟩
    · rw [List.getElem?_map, List.getElem?_eq_getElem hi']
      rfl
    · rw [h2.1]
      exact kyD_v k
theorem lcK_some {elt : CE} {tg : Tg} {ifs : CEs} {own : List Nat} {j : Nat} {d : D} (h : evE C (.lcK elt tg j ifs own) e S = some (d, S')) :
    ∃ n kvs ys S3, e[j]? = some (some (.ref n)) ∧ S[n]? = some (.dk kvs) ∧ lcLoop (lcT C elt tg ifs own e) (kvs.map fun kv => kyD kv.1) (S.set n (.frk kvs)) = some (ys, S3) ∧ ys.length < line ∧ new (.lst ys) (S3.set n (.dk kvs)) = some (d, S') := by
  simp only [evE] at h
  split at h
  · rename_i n hj
    split at h
    · rename_i kvs hs
      split at h
      · rename_i ys S2 hl
        split at h
        · rename_i hz
          exact ⟨n, kvs, ys, S2, hj, hs, hl, hz, h⟩
        · cases h
      · cases h
    · cases h
  · cases h
theorem dcK_some {kx vx : CE} {tg : Tg} {ifs : CEs} {own : List Nat} {j : Nat} {d : D} (h : evE C (.dcK kx vx tg j ifs own) e S = some (d, S')) :
    ∃ n kvs ys ps S3, e[j]? = some (some (.ref n)) ∧ S[n]? = some (.dk kvs) ∧ lcLoop (lcTn (tstEs C ifs) (dcF (evE C kx) (evE C vx)) tg (wipe e own)) (kvs.map fun kv => kyD kv.1) (S.set n (.frk kvs)) = some (ys, S3) ∧ optMap pairD ys = some ps ∧ ys.length < line ∧ new (.dk (foldP [] ps)) (S3.set n (.dk kvs)) = some (d, S') := by
  simp only [evE] at h
  split at h
  · rename_i n hj
    split at h
    · rename_i kvs hs
      split at h
      · rename_i ys S2 hl
        split at h
        · rename_i ps hp
          split at h
          · rename_i hz
            exact ⟨n, kvs, ys, ps, S2, hj, hs, hl, hp, hz, h⟩
          · cases h
        · cases h
      · cases h
    · cases h
  · cases h
/-- the walk over a locked dict, a variable's -/
theorem keys_in {j n : Nat} {a : Addr} {kvs : List (Ky × D)} {vs : List (Ky × V)} {od : Obj} {K : It → Hp → Prop} (R : Rep W ι S H) (Ve : EnV W ι H e σ) (hj : e[j]? = some (some (.ref n))) (hn : ι[n]? = some a) (hs : S[n]? = some (.dk kvs)) (hk : KVr W ι H kvs vs)
    (k : ∀ ι1 H1 J, Ext ι (S.set n (.frk kvs)) (upd H a (.frz od (.dK vs))) ι1 (S.set n (.frk kvs)) H1 → Rep W ι1 (S.set n (.frk kvs)) H1 → EnV W ι1 H1 e σ → WkD W J (kvs.map fun kv => kyD kv.1) ι1 (S.set n (.frk kvs)) H1 → K J H1) : iKeys (rdE W C (.var j)) σ (upd H a (.frz od (.dK vs))) K := by
  obtain ⟨R1, E1⟩ := lock_rep (od := od) R hn hs hk
  have hfz : (S.set n (.frk kvs))[n]? = some (.frk kvs) := List.getElem?_set_self (List.getElem?_eq_some_iff.mp hs).1
  have ev : evE C (.var j) e (S.set n (.frk kvs)) = some (.ref n, S.set n (.frk kvs)) := by
    simp only [evE, hj]
    rfl
  refine rdE_then R1 (Ve.mono E1 R) ev fun ι2 H2 v E2 R2 hv V2 => ?_
  obtain ⟨b, rfl, hb⟩ := hv
  rw [E2.get hn] at hb
  cases hb
  have ha : H2 a = some (.frz od (.dK vs)) := E2.keep a _ upd_same (fun ps z => nomatch z) fun _ => ⟨n, hn, by rw [hfz]; trivial⟩
  have hk2 : KVr W ι2 H2 kvs vs := by
    obtain ⟨o', vs', q, r⟩ := R2.ob n a _ (E2.get hn) hfz
    rw [ha] at q
    cases q
    exact r
  exact ⟨a, od, rfl, .inl ⟨vs, ha, k ι2 H2 _ E2 R2 V2 (wk_keys R2 (E2.get hn) hfz ha hk2)⟩⟩
theorem set_snoc {n : Nat} {o u : Ob} (h : n < S.length) : (S ++ [u]).set n o = S.set n o ++ [u] := by
  rw [List.set_append_left _ _ h]
theorem lcK_ok {elt : CE} {tg : Tg} {j : Nat} {ifs : CEs} {own : List Nat} (hown : ∀ i ∈ tg.ixs, i ∈ own) (σ : L2.St) (H : Hp) (Q : VK) (h : rdE W C (.lcK elt tg j ifs own) σ H Q) :
    tLockE (tLc (iKeys (rdE W C (.var j))) (rdG W tg) (rdTs W C ifs) (rdE W C elt) own) σ H Q := by
  obtain ⟨ι, S, e, d, S', R, Ve, ev, g⟩ := h
  obtain ⟨n, kvs, ys, S3, hj, hs, hl, hz, hnew⟩ := lcK_some ev
  cases hnew
  obtain ⟨a, hn, vs, hq, hk⟩ := R.addr hs
  refine ⟨a, .dK vs, hq, trivial, fun od => keys_in R Ve hj hn hs hk fun ι1 H1 J E1 R1 V1 w => ?_⟩
  show tLc (fun _ H R => R J H) (rdG W tg) (rdTs W C ifs) (rdE W C elt) own σ H1 (fun v H' => H' a = some (.frz od (.dK vs)) ∧ Q v (upd H' a (.dK vs)))
  refine lc_main hown R1 V1 w hl hz fun ι2 H2 A us hA E R2 hnA hqA hd => ?_
  have eu : upd H2 A (.lst us) = H2 := by
    funext b
    unfold upd
    split
    · rename_i hb
      rw [hb, hqA]
    · rfl
  have hi : ∀ (n : Nat) a, ι2[n]? = some a → (ι2 ++ [A])[n]? = some a := fun n a h => by
    rw [List.getElem?_append_left (List.getElem?_eq_some_iff.mp h).1]
    exact h
  have ho : OV W (ι2 ++ [A]) (upd H2 A (.lst us)) A (.lst ys) := ⟨us, upd_same, DVs.gen hi (own_keep hqA trivial) _ _ hd⟩
  obtain ⟨R3, E3⟩ := adopt (u' := .lst us) E R2 hA hnA hqA trivial ho
  rw [eu] at R3 E3
  obtain ⟨h1, R4, E4⟩ := unlock_rep R hn hs hk (E1.trans R1 E3) R3
  have hlt : n < S3.length := by
    rw [← R2.len]
    exact (List.getElem?_eq_some_iff.mp ((E1.trans R1 E).get hn)).1
  rw [set_snoc hlt] at R4 E4
  refine ⟨h1, g _ _ _ E4 R4 ⟨A, rfl, ?_⟩⟩
  rw [List.length_set, ← R2.len, List.getElem?_append_right (Nat.le_refl _)]
  simp
theorem dcK_ok {kx vx : CE} {tg : Tg} {j : Nat} {ifs : CEs} {own : List Nat} (hown : ∀ i ∈ tg.ixs, i ∈ own) (σ : L2.St) (H : Hp) (Q : VK) (h : rdE W C (.dcK kx vx tg j ifs own) σ H Q) :
    tLockE (tDc (iKeys (rdE W C (.var j))) (rdG W tg) (rdTs W C ifs) (rdE W C kx) (rdE W C vx) own) σ H Q := by
  obtain ⟨ι, S, e, d, S', R, Ve, ev, g⟩ := h
  obtain ⟨n, kvs, ys, ps, S3, hj, hs, hl, hps, hz, hnew⟩ := dcK_some ev
  cases hnew
  obtain ⟨a, hn, vs, hq, hk⟩ := R.addr hs
  refine ⟨a, .dK vs, hq, trivial, fun od => keys_in R Ve hj hn hs hk fun ι1 H1 J E1 R1 V1 w => ?_⟩
  show tDc (fun _ H R => R J H) (rdG W tg) (rdTs W C ifs) (rdE W C kx) (rdE W C vx) own σ H1 (fun v H' => H' a = some (.frz od (.dK vs)) ∧ Q v (upd H' a (.dK vs)))
  refine dc_main hown R1 V1 w hl hps hz fun ι2 H2 A us hA E R2 hnA hqA hd => ?_
  have eu : upd H2 A (.dK us) = H2 := by
    funext b
    unfold upd
    split
    · rename_i hb
      rw [hb, hqA]
    · rfl
  have hi : ∀ (n : Nat) a, ι2[n]? = some a → (ι2 ++ [A])[n]? = some a := fun n a h => by
    rw [List.getElem?_append_left (List.getElem?_eq_some_iff.mp h).1]
    exact h
  have ho : OV W (ι2 ++ [A]) (upd H2 A (.dK us)) A (.dk (foldP [] ps)) := ⟨us, upd_same, KVr.gen hi (own_keep hqA trivial) hd⟩
  obtain ⟨R3, E3⟩ := adopt (u' := .dK us) E R2 hA hnA hqA trivial ho
  rw [eu] at R3 E3
  obtain ⟨h1, R4, E4⟩ := unlock_rep R hn hs hk (E1.trans R1 E3) R3
  have hlt : n < S3.length := by
    rw [← R2.len]
    exact (List.getElem?_eq_some_iff.mp ((E1.trans R1 E).get hn)).1
  rw [set_snoc hlt] at R4 E4
  refine ⟨h1, g _ _ _ E4 R4 ⟨A, rfl, ?_⟩⟩
  rw [List.length_set, ← R2.len, List.getElem?_append_right (Nat.le_refl _)]
  simp
end
end PC
end
section
set_option Elab.async false
set_option linter.all false
set_option maxRecDepth 100000
set_option maxHeartbeats 4000000
/-! PC: list(zip(a, b)), with or without strict=True. -/
namespace PC
open PySem PySem.Spec PyProof.Rows
section
variable {prog : Program} {w : World} {A : Around} {E : Value → Shared → Prop} {s : Shared} {z TI TO i1 i2 T it : Addr} {fp fp1 fp2 : List Addr} {n n1 n2 i : Nat} {P P1 P2 : Nat → Value → Prop} {St St1 St2 : Nat → Heap → Prop} {a1 a2 : Value}
/-- a zip, strict or not -/
abbrev ZipO (b : Bool) (h : Heap) (z TI TO : Addr) (f0 : Value) (f1 : Bool) : Prop := h.get? z = some { cls := .type "zip", dict := none, data := .fields #[f0, .bool f1, .bool b, .ref TI, .ref TO], slots := #[] }
theorem orEnd_item {Q : Option Value → Shared → Prop} (D : Draws prog w A it fp n P St) (hi : i < n) (st : St i s.heap) (h : ∀ x h' tk, P i x → St (i + 1) h' → Heap.SameBut it s.heap h' → Q (some x) { s with heap := h', toks := tk }) : wpAny (model prog w) A (Builtin.SmallTypes.nextOrEnd (.ref it)) Q E s := by
  unfold Builtin.SmallTypes.nextOrEnd
  exact wpAny_bind (wpAny_attempt (D.item i s _ _ hi st fun x h' tk p st' sb => wpAny_pure (h x h' tk p st' sb)))
theorem orEnd_done {Q : Option Value → Shared → Prop} (D : Draws prog w A it fp n P St) (st : St n s.heap) (h : ∀ h', Heap.ExtBut it s.heap h' → Q none { s with heap := h' }) : wpAny (model prog w) A (Builtin.SmallTypes.nextOrEnd (.ref it)) Q E s := by
  unfold Builtin.SmallTypes.nextOrEnd
  refine wpAny_bind (wpAny_attempt (D.done s _ _ st fun h' e eb he => ?_))
  obtain ⟨o, ho, hc⟩ := he
  refine wpAny_bind (wpAny_isInstance (T := "StopIteration") (b := true) ⟨o, ho, hc⟩ isSubtype_stop ?_)
  exact wpAny_pure (h h' eb)
theorem isFree_held {b f : Bool} {oT : Obj} {Q : Bool → Shared → Prop} (hz : ZipO b s.heap z TI TO (rawInt T) f) (hT : s.heap.get? T = some oT) (h : ∀ h', ZipO b h' z TI TO (rawInt T) true → Heap.SameBut z s.heap h' → Q false { s with heap := h' }) : wpAny (model prog w) A (Builtin.SmallTypes.ownedTupleIsFree (.ref z)) Q E s := by
  unfold Builtin.SmallTypes.ownedTupleIsFree
  refine wpAny_bind (wpAny_field hz rfl (x := rawInt T) rfl ?_)
  show wpAny _ _ (loadIfAlive ((T : Int).toNat) >>= _) _ _ _
  rw [Int.toNat_natCast]
  refine wpAny_bind (PySem.W.kdx_alive hT ?_)
  simp only [Option.isNone_some, Bool.false_eq_true, if_false]
  refine wpAny_bind (wpAny_field hz rfl (x := .bool f) rfl ?_)
  cases f with
  | true =>
    rw [if_neg (show ¬ ((Value.bool true != Value.bool true) = true) from Bool.false_ne_true)]
    exact wpAny_pure (h s.heap hz (Heap.SameBut.refl _ _))
  | false =>
    rw [if_pos (show (Value.bool false != Value.bool true) = true from rfl)]
    exact wpAny_bind (wpAny_setField_rec hz (by simp) fun h1 hz1 hs1 => wpAny_pure (h h1 hz1 hs1))
/-- the next pair while the one ahead is still held -/
theorem zip_held {b f : Bool} {oT : Obj} {Q : Value → Shared → Prop} (S : ZipSep2 z TI TO i1 i2 fp1 fp2) (D1 : Draws prog w A i1 fp1 n1 P1 St1) (D2 : Draws prog w A i2 fp2 n2 P2 St2)
    (hz : ZipO b s.heap z TI TO (rawInt T) f) (hT : s.heap.get? T = some oT) (hTI : IsTupOf2 s.heap TI (.ref i1) (.ref i2)) (st1 : St1 i s.heap) (st2 : St2 i s.heap) (hlt1 : i < n1) (hlt2 : i < n2)
    (hQ : ∀ x1 x2 h' tk, P1 i x1 → P2 i x2 → ZipO b h' z TI TO (rawInt T) true → St1 (i + 1) h' → St2 (i + 1) h' → IsTupOf2 h' s.heap.objs.size x1 x2 → h'.objs.size = s.heap.objs.size + 1 →
      (∀ c o, c ≠ z → c ≠ i1 → c ≠ i2 → s.heap.get? c = some o → h'.get? c = some o) → Q (.ref s.heap.objs.size) { s with heap := h', toks := tk }) :
    wpAny (model prog w) A (Builtin.«zip.__next__» ⟨[.ref z], []⟩) (fun fin s' => ∃ v, fin = .done (.ret v) ∧ Q v s') E s := by
  obtain ⟨hp, g, d, tk0, os⟩ := s
  show wpAny _ _ (field (.ref z) 2 >>= _) _ _ _
  refine wpAny_bind (wpAny_field hz rfl (x := .bool b) rfl ?_)
  show wpAny _ _ (field (.ref z) 3 >>= _) _ _ _
  refine wpAny_bind (wpAny_field hz rfl (x := .ref TI) rfl ?_)
  refine wpAny_bind (wpAny_seqItems hTI rfl ?_)
  show wpAny _ _ (Builtin.SmallTypes.ownedTupleIsFree (.ref z) >>= _) _ _ _
  refine wpAny_bind (isFree_held hz hT fun g0 hz0 hs0 => ?_)
  replace hs0 : Heap.SameBut z hp g0 := hs0
  simp only [Bool.false_eq_true, if_false]
  have fin : ∀ (x1 x2 : Value) (p1 p2 : Heap) (tk2 : Nat), P1 i x1 → P2 i x2 → St1 (i + 1) p1 → Heap.SameBut i1 g0 p1 → St2 (i + 1) p2 → Heap.SameBut i2 p1 p2 →
      wpAny (model prog w) A (newTuple [x1, x2] >>= fun t => pure (PySem.Fin.done (.ret t))) (fun fin s' => ∃ v, fin = .done (.ret v) ∧ Q v s') E ⟨p2, g, d, tk2, os⟩ := by
    intro x1 x2 p1 p2 tk2 hx1 hx2 sn1 hp1 sn2 hp2
    refine wpAny_bind (wpAny_newTuple ?_)
    have hsz : p2.objs.size = hp.objs.size := by rw [hp2.1, hp1.1, hs0.1]
    have hzz : ZipO b p2 z TI TO (rawInt T) true := hp2.extBut _ _ S.zi2 (hp1.extBut _ _ S.zi1 hz0)
    have hkk : ∀ c o, c ≠ z → c ≠ i1 → c ≠ i2 → hp.get? c = some o → p2.get? c = some o := fun c o cz c1 c2 e => hp2.extBut _ _ c2 (hp1.extBut _ _ c1 (hs0.extBut _ _ cz e))
    have hT2 : IsTupOf2 (p2.push { cls := .type "tuple", data := .seq #[x1, x2] }) p2.objs.size x1 x2 := Heap.get?_push_size _ rfl
    have hz8 : (p2.push { cls := .type "tuple", data := .seq #[x1, x2] }).objs.size = p2.objs.size + 1 := Heap.size_push ..
    have up : ∀ c o, p2.get? c = some o → (p2.push { cls := .type "tuple", data := .seq #[x1, x2] }).get? c = some o := fun c o e => Heap.get?_push_of_some _ e
    refine wpAny_pure ⟨_, rfl, ?_⟩
    rw [hsz] at hT2 hz8
    show Q (.ref p2.objs.size) _
    rw [hsz]
    exact hQ x1 x2 _ tk2 hx1 hx2 (up _ _ hzz) (D1.frame _ _ _ (D1.over sn1 hp2 S.sep2_1) fun c _ o e => up c o e) (D2.frame _ _ _ sn2 fun c _ o e => up c o e) hT2 hz8 fun c o cz c1 c2 e => up c o (hkk c o cz c1 c2 e)
  cases b with
  | false =>
    refine wpAny_bind ?_
    rw [← Array.forIn_toList]
    simp only [List.forIn_cons, List.forIn_nil]
    refine wpAny_bind (wpAny_bind (wpAny_holding ?_))
    show wpAny _ _ (Builtin.SmallTypes.nextOf (.ref i1) >>= _) _ _ ⟨g0, g, d, tk0, os⟩
    refine wpAny_bind (D1.item i _ _ _ hlt1 (D1.over st1 hs0 S.zf1) fun x1 p1 tk1 hx1 sn1 hp1 => wpAny_pure (wpAny_pure ?_))
    refine wpAny_bind (wpAny_bind (wpAny_holding ?_))
    show wpAny _ _ (Builtin.SmallTypes.nextOf (.ref i2) >>= _) _ _ ⟨p1, g, d, tk1, os⟩
    refine wpAny_bind (D2.item i _ _ _ hlt2 (D2.over (D2.over st2 hs0 S.zf2) hp1 S.sep1_2) fun x2 p2 tk2 hx2 sn2 hp2 => wpAny_pure (wpAny_pure (wpAny_pure ?_)))
    exact fin x1 x2 p1 p2 tk2 hx1 hx2 sn1 hp1 sn2 hp2
  | true =>
    refine wpAny_bind ?_
    rw [← Array.forIn_toList]
    simp only [List.forIn_cons, List.forIn_nil]
    refine wpAny_bind (wpAny_bind (wpAny_holding ?_))
    show wpAny _ _ (Builtin.SmallTypes.nextOrEnd (.ref i1)) _ _ ⟨g0, g, d, tk0, os⟩
    refine orEnd_item D1 hlt1 (D1.over st1 hs0 S.zf1) fun x1 p1 tk1 hx1 sn1 hp1 => wpAny_pure ?_
    refine wpAny_bind (wpAny_bind (wpAny_holding ?_))
    show wpAny _ _ (Builtin.SmallTypes.nextOrEnd (.ref i2)) _ _ ⟨p1, g, d, tk1, os⟩
    refine orEnd_item D2 hlt2 (D2.over (D2.over st2 hs0 S.zf2) hp1 S.sep1_2) fun x2 p2 tk2 hx2 sn2 hp2 => wpAny_pure (wpAny_pure ?_)
    exact fin x1 x2 p1 p2 tk2 hx1 hx2 sn1 hp1 sn2 hp2
theorem stop_it {α : Type} {Q : α → Shared → Prop} (hh : A.handled = none) (h : ∀ h' e, (∀ c o, s.heap.get? c = some o → h'.get? c = some o) → (∃ o, h'.get? e = some o ∧ o.cls = .type "StopIteration") → E (.ref e) { s with heap := h' }) : wpAny (model prog w) A (Builtin.SmallTypes.stopIteration (α := α)) Q E s := by
  unfold Builtin.SmallTypes.stopIteration
  refine wpAny_bind ?_
  simp only [newExc, newTuple]
  refine wpAny_bind (wpAny_newObj_type ?_ (by size_fits))
  refine wpAny_bind (m := firstArgMember _ _) (wpAny_of_eq (a := Value.none) (by first | rfl | (simp only [firstArgMember]; rfl)) ?_)
  refine wpAny_newObj_type ?_ (by size_fits)
  simp only [raiseNew]
  refine wpAny_bind (wpAny_handled ?_)
  rw [hh]
  refine wpAny_bind (wpAny_pure (wpAny_throw ?_))
  exact h _ _ (fun c o e => Heap.get?_push_of_some _ (Heap.get?_push_of_some _ e)) ⟨_, Heap.get?_push_size _ rfl, rfl⟩
/-- the end, the last tuple still held -/
theorem zip_held_end {b f : Bool} {oT : Obj} {Q : Fin → Shared → Prop} (hh : A.handled = none) (S : ZipSep2 z TI TO i1 i2 fp1 fp2) (D1 : Draws prog w A i1 fp1 n P1 St1) (D2 : Draws prog w A i2 fp2 n P2 St2)
    (hz : ZipO b s.heap z TI TO (rawInt T) f) (hT : s.heap.get? T = some oT) (hTI : IsTupOf2 s.heap TI (.ref i1) (.ref i2)) (st1 : St1 n s.heap) (st2 : St2 n s.heap)
    (hE : ∀ h' e, (∀ c o, c ≠ z → c ≠ i1 → c ≠ i2 → s.heap.get? c = some o → h'.get? c = some o) → (∃ o, h'.get? e = some o ∧ o.cls = .type "StopIteration") → E (.ref e) { s with heap := h' }) :
    wpAny (model prog w) A (Builtin.«zip.__next__» ⟨[.ref z], []⟩) Q E s := by
  obtain ⟨hp, g, d, tk0, os⟩ := s
  show wpAny _ _ (field (.ref z) 2 >>= _) _ _ _
  refine wpAny_bind (wpAny_field hz rfl (x := .bool b) rfl ?_)
  show wpAny _ _ (field (.ref z) 3 >>= _) _ _ _
  refine wpAny_bind (wpAny_field hz rfl (x := .ref TI) rfl ?_)
  refine wpAny_bind (wpAny_seqItems hTI rfl ?_)
  show wpAny _ _ (Builtin.SmallTypes.ownedTupleIsFree (.ref z) >>= _) _ _ _
  refine wpAny_bind (isFree_held hz hT fun g0 hz0 hs0 => ?_)
  replace hs0 : Heap.SameBut z hp g0 := hs0
  simp only [Bool.false_eq_true, if_false]
  cases b with
  | false =>
    refine wpAny_bind ?_
    rw [← Array.forIn_toList]
    simp only [List.forIn_cons, List.forIn_nil]
    refine wpAny_bind (wpAny_bind (wpAny_holding ?_))
    show wpAny _ _ (Builtin.SmallTypes.nextOf (.ref i1) >>= _) _ _ ⟨g0, g, d, tk0, os⟩
    refine wpAny_bind (D1.done ⟨g0, g, d, tk0, os⟩ _ _ (D1.over st1 hs0 S.zf1) fun q e hq he => ?_)
    exact hE q e (fun c o cz c1 c2 x => hq _ _ c1 (hs0.extBut _ _ cz x)) he
  | true =>
    refine wpAny_bind ?_
    rw [← Array.forIn_toList]
    simp only [List.forIn_cons, List.forIn_nil]
    refine wpAny_bind (wpAny_bind (wpAny_holding ?_))
    show wpAny _ _ (Builtin.SmallTypes.nextOrEnd (.ref i1)) _ _ ⟨g0, g, d, tk0, os⟩
    refine orEnd_done D1 (D1.over st1 hs0 S.zf1) fun q hq => ?_
    replace hq : Heap.ExtBut i1 g0 q := hq
    refine wpAny_bind ?_
    show wpAny _ _ (forIn ([(Value.ref i2, 1)] : List (Value × Nat)) PUnit.unit _ >>= _) _ _ _
    simp only [List.forIn_cons, List.forIn_nil]
    refine wpAny_bind (wpAny_bind (wpAny_bind ?_))
    refine orEnd_done D2 (D2.frame _ _ _ (D2.over st2 hs0 S.zf2) fun c hc o e => hq c o (fun z => S.sep1_2 (z ▸ hc)) e) fun q2 hq2 => ?_
    replace hq2 : Heap.ExtBut i2 q q2 := hq2
    simp only [Option.isSome_none, Bool.false_eq_true, if_false]
    refine wpAny_pure (wpAny_pure (wpAny_bind (wpAny_rule ?_)))
    refine stop_it hh fun q3 e h3 he => ?_
    exact hE q3 e (fun c o cz c1 c2 x => h3 _ _ (hq2 _ _ c2 (hq _ _ c1 (hs0.extBut _ _ cz x)))) he
/-- the first pair -/
theorem zip_first {b : Bool} {Q : Value → Shared → Prop} (S : ZipSep2 z TI TO i1 i2 fp1 fp2) (D1 : Draws prog w A i1 fp1 n P1 St1) (D2 : Draws prog w A i2 fp2 n P2 St2)
    (hz : ZipO b s.heap z TI TO .none false) (hTI : IsTupOf2 s.heap TI (.ref i1) (.ref i2)) (hTO : IsTupOf2 s.heap TO a1 a2) (st1 : St1 0 s.heap) (st2 : St2 0 s.heap) (hn : 0 < n)
    (hQ : ∀ x1 x2 h' tk, P1 0 x1 → P2 0 x2 → ZipO b h' z TI TO (rawInt s.heap.objs.size) false → St1 1 h' → St2 1 h' → IsTupOf2 h' s.heap.objs.size x1 x2 → h'.objs.size = s.heap.objs.size + 1 →
      (∀ c o, c ≠ z → c ≠ TO → c ≠ i1 → c ≠ i2 → s.heap.get? c = some o → h'.get? c = some o) → Q (.ref s.heap.objs.size) { s with heap := h', toks := tk }) :
    wpAny (model prog w) A (Builtin.«zip.__next__» ⟨[.ref z], []⟩) (fun fin s' => ∃ v, fin = .done (.ret v) ∧ Q v s') E s := by
  obtain ⟨hp, g, d, tk0, os⟩ := s
  show wpAny _ _ (field (.ref z) 2 >>= _) _ _ _
  refine wpAny_bind (wpAny_field hz rfl (x := .bool b) rfl ?_)
  show wpAny _ _ (field (.ref z) 3 >>= _) _ _ _
  refine wpAny_bind (wpAny_field hz rfl (x := .ref TI) rfl ?_)
  refine wpAny_bind (wpAny_seqItems hTI rfl ?_)
  show wpAny _ _ (Builtin.SmallTypes.ownedTupleIsFree (.ref z) >>= _) _ _ _
  refine wpAny_bind ?_
  unfold Builtin.SmallTypes.ownedTupleIsFree
  refine wpAny_bind (wpAny_field hz rfl (x := .none) rfl (wpAny_pure ?_))
  simp only [if_true]
  refine wpAny_bind (wpAny_rule (wpAny_bind (wpAny_field hz rfl (x := .ref TO) rfl ?_)))
  refine wpAny_bind (wpAny_setField_rec hz (by simp) fun g0 hz0 hs0 => ?_)
  replace hz0 : ZipO b g0 z TI TO .ellipsis false := hz0
  replace hs0 : Heap.SameBut z hp g0 := hs0
  have fin : ∀ (x1 x2 : Value) (p1 g1 p2 g2 : Heap) (tk2 : Nat), P1 0 x1 → P2 0 x2 → St1 1 p1 → Heap.SameBut i1 g0 p1 → Heap.SameBut TO p1 g1 → St2 1 p2 → Heap.SameBut i2 g1 p2 → IsTupOf2 g2 TO x1 x2 → Heap.SameBut TO p2 g2 →
      wpAny (model prog w) A (newTuple [x1, x2] >>= fun t => Builtin.SmallTypes.ownedTupleHandOut (.ref z) t >>= fun _ => pure (PySem.Fin.done (.ret t))) (fun fin s' => ∃ v, fin = .done (.ret v) ∧ Q v s') E ⟨g2, g, d, tk2, os⟩ := by
    intro x1 x2 p1 g1 p2 g2 tk2 hx1 hx2 sn1 hp1 hs1 sn2 hp2 hT2 hs2
    refine wpAny_bind (wpAny_newTuple ?_)
    have hsz : g2.objs.size = hp.objs.size := by rw [hs2.1, hp2.1, hs1.1, hp1.1, hs0.1]
    have hzz : ZipO b g2 z TI TO .ellipsis false := hs2.extBut _ _ S.TOz.symm (hp2.extBut _ _ S.zi2 (hs1.extBut _ _ S.TOz.symm (hp1.extBut _ _ S.zi1 hz0)))
    have hkk : ∀ c o, c ≠ z → c ≠ TO → c ≠ i1 → c ≠ i2 → hp.get? c = some o → g2.get? c = some o := fun c o cz cT c1 c2 e =>
      hs2.extBut _ _ cT (hp2.extBut _ _ c2 (hs1.extBut _ _ cT (hp1.extBut _ _ c1 (hs0.extBut _ _ cz e))))
    have hj1 : St1 1 g2 := D1.over (D1.over (D1.over sn1 hs1 S.Tf1) hp2 S.sep2_1) hs2 S.Tf1
    have hj2 : St2 1 g2 := D2.over sn2 hs2 S.Tf2
    have hzlt : z < g2.objs.size := Heap.lt_size hzz
    show wpAny _ _ (Builtin.SmallTypes.ownedTupleHandOut (.ref z) (.ref g2.objs.size) >>= _) _ _ ⟨g2.push { cls := .type "tuple", data := .seq #[x1, x2] }, g, d, tk2, os⟩
    refine wpAny_bind ?_
    unfold Builtin.SmallTypes.ownedTupleHandOut
    have hz6 : ZipO b (g2.push { cls := .type "tuple", data := .seq #[x1, x2] }) z TI TO .ellipsis false := Heap.get?_push_of_some _ hzz
    refine wpAny_bind (wpAny_setField_rec hz6 (by simp) fun h7 hz7 hs7 => ?_)
    replace hz7 : ZipO b h7 z TI TO (rawInt g2.objs.size) false := hz7
    refine wpAny_setField_rec hz7 (by simp) fun h8 hz8 hs8 => ?_
    replace hz8 : ZipO b h8 z TI TO (rawInt g2.objs.size) false := hz8
    replace hs7 : Heap.SameBut z (g2.push { cls := .type "tuple", data := .seq #[x1, x2] }) h7 := hs7
    replace hs8 : Heap.SameBut z h7 h8 := hs8
    have up : ∀ c o, c ≠ z → g2.get? c = some o → h8.get? c = some o := fun c o c1 e => hs8.extBut _ _ c1 (hs7.extBut _ _ c1 (Heap.get?_push_of_some _ e))
    have hT8 : IsTupOf2 h8 g2.objs.size x1 x2 := hs8.extBut _ _ (Nat.ne_of_gt hzlt) (hs7.extBut _ _ (Nat.ne_of_gt hzlt) (Heap.get?_push_size _ rfl))
    have hn8 : h8.objs.size = g2.objs.size + 1 := by rw [hs8.1, hs7.1, Heap.size_push]
    rw [hsz] at hz8 hT8 hn8
    refine wpAny_pure ⟨_, rfl, ?_⟩
    show Q (.ref g2.objs.size) ⟨h8, g, d, tk2, os⟩
    rw [hsz]
    exact hQ x1 x2 h8 tk2 hx1 hx2 hz8 (D1.frame _ _ _ hj1 fun c hc o e => up c o (fun q => S.zf1 (q ▸ hc)) e) (D2.frame _ _ _ hj2 fun c hc o e => up c o (fun q => S.zf2 (q ▸ hc)) e) hT8 hn8 fun c o cz cT c1 c2 e => up c o cz (hkk c o cz cT c1 c2 e)
  cases b with
  | false =>
    refine wpAny_bind ?_
    simp only [List.zipIdx_cons, List.zipIdx_nil, List.forIn_cons, List.forIn_nil]
    refine wpAny_bind (wpAny_bind (wpAny_onRaise ?_))
    show wpAny _ _ (Builtin.SmallTypes.nextOf (.ref i1) >>= _) _ _ ⟨g0, g, d, tk0, os⟩
    refine wpAny_bind (D1.item 0 _ _ _ hn (D1.over st1 hs0 S.zf1) fun x1 p1 tk1 hx1 sn1 hp1 => wpAny_pure ?_)
    replace hp1 : Heap.SameBut i1 g0 p1 := hp1
    have hU1 : IsTupOf2 p1 TO a1 a2 := hp1.extBut _ _ S.Ti1 (hs0.extBut _ _ S.TOz hTO)
    refine wpAny_bind (wpAny_seqItems (s := ⟨p1, g, d, tk1, os⟩) hU1 rfl ?_)
    refine wpAny_bind (updateSeq_IsTupOf2 (s := ⟨p1, g, d, tk1, os⟩) hU1 fun g1 hT1 hs1 => ?_)
    replace hT1 : IsTupOf2 g1 TO x1 a2 := hT1
    replace hs1 : Heap.SameBut TO p1 g1 := hs1
    refine wpAny_bind (wpAny_letGo (wpAny_pure ?_))
    refine wpAny_bind (wpAny_bind (wpAny_onRaise ?_))
    show wpAny _ _ (Builtin.SmallTypes.nextOf (.ref i2) >>= _) _ _ ⟨g1, g, d, tk1, os⟩
    refine wpAny_bind (D2.item 0 _ _ _ hn (D2.over (D2.over (D2.over st2 hs0 S.zf2) hp1 S.sep1_2) hs1 S.Tf2) fun x2 p2 tk2 hx2 sn2 hp2 => wpAny_pure ?_)
    replace hp2 : Heap.SameBut i2 g1 p2 := hp2
    have hU2 : IsTupOf2 p2 TO x1 a2 := hp2.extBut _ _ S.Ti2 hT1
    refine wpAny_bind (wpAny_seqItems (s := ⟨p2, g, d, tk2, os⟩) hU2 rfl ?_)
    refine wpAny_bind (updateSeq_IsTupOf2 (s := ⟨p2, g, d, tk2, os⟩) hU2 fun g2 hT2 hs2 => ?_)
    replace hT2 : IsTupOf2 g2 TO x1 x2 := hT2
    replace hs2 : Heap.SameBut TO p2 g2 := hs2
    refine wpAny_bind (wpAny_letGo (wpAny_pure (wpAny_pure ?_)))
    refine wpAny_bind (wpAny_seqItems (s := ⟨g2, g, d, tk2, os⟩) hT2 rfl ?_)
    exact fin x1 x2 p1 g1 p2 g2 tk2 hx1 hx2 sn1 hp1 hs1 sn2 hp2 hT2 hs2
  | true =>
    refine wpAny_bind ?_
    simp only [List.zipIdx_cons, List.zipIdx_nil, List.forIn_cons, List.forIn_nil]
    refine wpAny_bind (wpAny_bind (wpAny_onRaise ?_))
    show wpAny _ _ (Builtin.SmallTypes.nextOrEnd (.ref i1)) _ _ ⟨g0, g, d, tk0, os⟩
    refine orEnd_item D1 hn (D1.over st1 hs0 S.zf1) fun x1 p1 tk1 hx1 sn1 hp1 => ?_
    replace hp1 : Heap.SameBut i1 g0 p1 := hp1
    have hU1 : IsTupOf2 p1 TO a1 a2 := hp1.extBut _ _ S.Ti1 (hs0.extBut _ _ S.TOz hTO)
    refine wpAny_bind (wpAny_seqItems (s := ⟨p1, g, d, tk1, os⟩) hU1 rfl ?_)
    refine wpAny_bind (updateSeq_IsTupOf2 (s := ⟨p1, g, d, tk1, os⟩) hU1 fun g1 hT1 hs1 => ?_)
    replace hT1 : IsTupOf2 g1 TO x1 a2 := hT1
    replace hs1 : Heap.SameBut TO p1 g1 := hs1
    refine wpAny_bind (wpAny_letGo (wpAny_pure ?_))
    refine wpAny_bind (wpAny_bind (wpAny_onRaise ?_))
    show wpAny _ _ (Builtin.SmallTypes.nextOrEnd (.ref i2)) _ _ ⟨g1, g, d, tk1, os⟩
    refine orEnd_item D2 hn (D2.over (D2.over (D2.over st2 hs0 S.zf2) hp1 S.sep1_2) hs1 S.Tf2) fun x2 p2 tk2 hx2 sn2 hp2 => ?_
    replace hp2 : Heap.SameBut i2 g1 p2 := hp2
    have hU2 : IsTupOf2 p2 TO x1 a2 := hp2.extBut _ _ S.Ti2 hT1
    refine wpAny_bind (wpAny_seqItems (s := ⟨p2, g, d, tk2, os⟩) hU2 rfl ?_)
    refine wpAny_bind (updateSeq_IsTupOf2 (s := ⟨p2, g, d, tk2, os⟩) hU2 fun g2 hT2 hs2 => ?_)
    replace hT2 : IsTupOf2 g2 TO x1 x2 := hT2
    replace hs2 : Heap.SameBut TO p2 g2 := hs2
    refine wpAny_bind (wpAny_letGo (wpAny_pure (wpAny_pure ?_)))
    refine wpAny_bind (wpAny_seqItems (s := ⟨g2, g, d, tk2, os⟩) hT2 rfl ?_)
    exact fin x1 x2 p1 g1 p2 g2 tk2 hx1 hx2 sn1 hp1 hs1 sn2 hp2 hT2 hs2
/-- nothing to pair -/
theorem zip_none {b : Bool} {Q : Fin → Shared → Prop} (hh : A.handled = none) (S : ZipSep2 z TI TO i1 i2 fp1 fp2) (D1 : Draws prog w A i1 fp1 0 P1 St1) (D2 : Draws prog w A i2 fp2 0 P2 St2)
    (hz : ZipO b s.heap z TI TO .none false) (hTI : IsTupOf2 s.heap TI (.ref i1) (.ref i2)) (hTO : IsTupOf2 s.heap TO a1 a2) (st1 : St1 0 s.heap) (st2 : St2 0 s.heap)
    (hE : ∀ h' e, (∀ c o, c ≠ z → c ≠ i1 → c ≠ i2 → s.heap.get? c = some o → h'.get? c = some o) → (∃ o, h'.get? e = some o ∧ o.cls = .type "StopIteration") → E (.ref e) { s with heap := h' }) :
    wpAny (model prog w) A (Builtin.«zip.__next__» ⟨[.ref z], []⟩) Q E s := by
  obtain ⟨hp, g, d, tk0, os⟩ := s
  show wpAny _ _ (field (.ref z) 2 >>= _) _ _ _
  refine wpAny_bind (wpAny_field hz rfl (x := .bool b) rfl ?_)
  show wpAny _ _ (field (.ref z) 3 >>= _) _ _ _
  refine wpAny_bind (wpAny_field hz rfl (x := .ref TI) rfl ?_)
  refine wpAny_bind (wpAny_seqItems hTI rfl ?_)
  show wpAny _ _ (Builtin.SmallTypes.ownedTupleIsFree (.ref z) >>= _) _ _ _
  refine wpAny_bind ?_
  unfold Builtin.SmallTypes.ownedTupleIsFree
  refine wpAny_bind (wpAny_field hz rfl (x := .none) rfl (wpAny_pure ?_))
  simp only [if_true]
  refine wpAny_bind (wpAny_rule (wpAny_bind (wpAny_field hz rfl (x := .ref TO) rfl ?_)))
  refine wpAny_bind (wpAny_setField_rec hz (by simp) fun g0 hz0 hs0 => ?_)
  replace hz0 : ZipO b g0 z TI TO .ellipsis false := hz0
  replace hs0 : Heap.SameBut z hp g0 := hs0
  cases b with
  | false =>
    refine wpAny_bind ?_
    simp only [List.zipIdx_cons, List.zipIdx_nil, List.forIn_cons, List.forIn_nil]
    refine wpAny_bind (wpAny_bind (wpAny_onRaise ?_))
    show wpAny _ _ (Builtin.SmallTypes.nextOf (.ref i1) >>= _) _ _ ⟨g0, g, d, tk0, os⟩
    refine wpAny_bind (D1.done ⟨g0, g, d, tk0, os⟩ _ _ (D1.over st1 hs0 S.zf1) fun q e hq he => ?_)
    replace hq : Heap.ExtBut i1 g0 q := hq
    obtain ⟨oe, hoe, hce⟩ := he
    replace hoe : q.get? e = some oe := hoe
    have hzq : ZipO false q z TI TO .ellipsis false := hq _ _ S.zi1 hz0
    have hez : e ≠ z := fun x => by subst x; rw [hzq] at hoe; cases hoe; simp at hce
    refine wpAny_setField_rec (s := ⟨q, g, d, tk0, os⟩) hzq (by simp) fun q' _ hq' => ?_
    replace hq' : Heap.SameBut z q q' := hq'
    exact hE q' e (fun c o cz c1 c2 x => hq'.extBut _ _ cz (hq _ _ c1 (hs0.extBut _ _ cz x))) ⟨oe, hq'.extBut _ _ hez hoe, hce⟩
  | true =>
    refine wpAny_bind ?_
    simp only [List.zipIdx_cons, List.zipIdx_nil, List.forIn_cons, List.forIn_nil]
    refine wpAny_bind (wpAny_bind (wpAny_onRaise ?_))
    show wpAny _ _ (Builtin.SmallTypes.nextOrEnd (.ref i1)) _ _ ⟨g0, g, d, tk0, os⟩
    refine orEnd_done D1 (D1.over st1 hs0 S.zf1) fun q hq => ?_
    replace hq : Heap.ExtBut i1 g0 q := hq
    have hzq : ZipO true q z TI TO .ellipsis false := hq _ _ S.zi1 hz0
    refine wpAny_bind (wpAny_setField_rec (s := ⟨q, g, d, tk0, os⟩) hzq (by simp) fun q' _ hq' => ?_)
    replace hq' : Heap.SameBut z q q' := hq'
    refine wpAny_bind ?_
    show wpAny _ _ (forIn ([(Value.ref i2, 1)] : List (Value × Nat)) PUnit.unit _ >>= _) _ _ _
    simp only [List.forIn_cons, List.forIn_nil]
    refine wpAny_bind (wpAny_bind (wpAny_bind ?_))
    refine orEnd_done D2 (D2.over (D2.frame _ _ _ (D2.over st2 hs0 S.zf2) fun c hc o e => hq c o (fun z => S.sep1_2 (z ▸ hc)) e) hq' S.zf2) fun q2 hq2 => ?_
    replace hq2 : Heap.ExtBut i2 q' q2 := hq2
    simp only [Option.isSome_none, Bool.false_eq_true, if_false]
    refine wpAny_pure (wpAny_pure (wpAny_bind (wpAny_rule ?_)))
    refine stop_it hh fun q3 e h3 he => ?_
    exact hE q3 e (fun c o cz c1 c2 x => h3 _ _ (hq2 _ _ c2 (hq'.extBut _ _ cz (hq _ _ c1 (hs0.extBut _ _ cz x))))) he
/-- a zip behind i pairs; the last one is held -/
def ZSt (b : Bool) (z TI TO i1 i2 L : Addr) (St1 St2 : Nat → Heap → Prop) (i : Nat) (h : Heap) : Prop := IsTupOf2 h TI (.ref i1) (.ref i2) ∧ St1 i h ∧ St2 i h ∧
  ((i = 0 ∧ ∃ a1 a2, ZipO b h z TI TO .none false ∧ IsTupOf2 h TO a1 a2) ∨ ∃ (T : Addr) (f : Bool) (oT : Obj), ZipO b h z TI TO (rawInt T) f ∧ h.get? T = some oT ∧ T ≠ L ∧ T ≠ z ∧ T ≠ i1 ∧ T ≠ i2)
theorem ZSt.at_ {b : Bool} {L : Addr} (S : ZipSep2 z TI TO i1 i2 fp1 fp2) (D1 : Draws prog w A i1 fp1 n P1 St1) (D2 : Draws prog w A i2 fp2 n P2 St2) (hL : L ∉ fp1 ∧ L ∉ fp2 ∧ L ≠ z ∧ L ≠ TI ∧ L ≠ TO) {h h' : Heap} (x : ZSt b z TI TO i1 i2 L St1 St2 i h) (k : ∀ c o, c ≠ L → h.get? c = some o → h'.get? c = some o) : ZSt b z TI TO i1 i2 L St1 St2 i h' := by
  obtain ⟨h1, h2, h3, h4⟩ := x
  obtain ⟨l1, l2, l3, l4, l5⟩ := hL
  refine ⟨k _ _ (Ne.symm l4) h1, D1.frame _ _ _ h2 fun c hc o e => k c o (fun q => l1 (q ▸ hc)) e, D2.frame _ _ _ h3 fun c hc o e => k c o (fun q => l2 (q ▸ hc)) e, ?_⟩
  rcases h4 with ⟨h4, a1, a2, h5, h6⟩ | ⟨T, f, oT, h5, h6, h7⟩
  · exact .inl ⟨h4, a1, a2, k _ _ (Ne.symm l3) h5, k _ _ (Ne.symm l5) h6⟩
  · exact .inr ⟨T, f, oT, k _ _ (Ne.symm l3) h5, k _ _ h7.1 h6, h7⟩
theorem ZSt.type {b : Bool} {L : Addr} (x : ZSt b z TI TO i1 i2 L St1 St2 i s.heap) : s.TypeIs (.ref z) "zip" := by
  obtain ⟨_, _, _, ⟨_, _, _, h, _⟩ | ⟨_, _, _, h, _⟩⟩ := x <;> exact ⟨_, h, rfl⟩
theorem zn_item {b : Bool} {L : Addr} {Q : Option Value → Shared → Prop} (S : ZipSep2 z TI TO i1 i2 fp1 fp2) (D1 : Draws prog w A.in1 i1 fp1 n P1 St1) (D2 : Draws prog w A.in1 i2 fp2 n P2 St2) (x : ZSt b z TI TO i1 i2 L St1 St2 i s.heap) (hi : i < n) (hL : L < s.heap.objs.size)
    (hQ : ∀ x1 x2 h' tk, P1 i x1 → P2 i x2 → ZSt b z TI TO i1 i2 L St1 St2 (i + 1) h' → IsTupOf2 h' s.heap.objs.size x1 x2 → h'.objs.size = s.heap.objs.size + 1 → (∀ c o, c ≠ z → c ≠ TO → c ≠ i1 → c ≠ i2 → s.heap.get? c = some o → h'.get? c = some o) → Q (some (.ref s.heap.objs.size)) { s with heap := h', toks := tk }) :
    wpAny (model prog w) A (pyNext (.ref z)) Q E s := by
  have hT := x.type
  obtain ⟨h1, h2, h3, h4⟩ := x
  obtain ⟨o1, ho1⟩ := D1.live _ _ h2
  obtain ⟨o2, ho2⟩ := D2.live _ _ h3
  have l1 := Heap.lt_size ho1
  have l2 := Heap.lt_size ho2
  unfold pyNext
  refine wpAny_bind (wpAny_attempt (wpAny_callSpecial?_slot (name := Str.ofString "__next__") hT PySem.F.slot_zip_next (wpAny_call_entry PySem.F.slot_zip_next hT PySem.F.entry_zip_next ?_ (PySem.F.args_zip_next_1 _))))
  rcases h4 with ⟨rfl, a1, a2, h5, h6⟩ | ⟨T, f, oT, h5, h6, h7, h8, h9, h10⟩
  · have lz := Heap.lt_size h5
    exact zip_first S D1 D2 h5 h1 h6 h2 h3 hi fun x1 x2 h' tk p1 p2 q1 q2 q3 q4 q5 q6 => wpAny_pure (hQ x1 x2 h' tk p1 p2 ⟨q6 _ _ S.TIz S.TITO S.TIi1 S.TIi2 h1, q2, q3, .inr ⟨s.heap.objs.size, false, _, q1, q4, Nat.ne_of_gt hL, Nat.ne_of_gt lz, Nat.ne_of_gt l1, Nat.ne_of_gt l2⟩⟩ q4 q5 q6)
  · refine zip_held S D1 D2 h5 h6 h1 h2 h3 hi hi fun x1 x2 h' tk p1 p2 q1 q2 q3 q4 q5 q6 => wpAny_pure (hQ x1 x2 h' tk p1 p2 ⟨q6 _ _ S.TIz S.TIi1 S.TIi2 h1, q2, q3, .inr ⟨T, true, oT, q1, q6 _ _ h8 h9 h10 h6, h7, h8, h9, h10⟩⟩ q4 q5 fun c o cz _ c1 c2 e => q6 c o cz c1 c2 e)
theorem zn_end {b : Bool} {L : Addr} {Q : Option Value → Shared → Prop} (hh : A.handled = none) (S : ZipSep2 z TI TO i1 i2 fp1 fp2) (D1 : Draws prog w A.in1 i1 fp1 n P1 St1) (D2 : Draws prog w A.in1 i2 fp2 n P2 St2) (x : ZSt b z TI TO i1 i2 L St1 St2 n s.heap)
    (hQ : ∀ h', (∀ c o, c ≠ z → c ≠ i1 → c ≠ i2 → s.heap.get? c = some o → h'.get? c = some o) → Q none { s with heap := h' }) : wpAny (model prog w) A (pyNext (.ref z)) Q E s := by
  have hT := x.type
  obtain ⟨h1, h2, h3, h4⟩ := x
  have fin : ∀ h' e, (∀ c o, c ≠ z → c ≠ i1 → c ≠ i2 → s.heap.get? c = some o → h'.get? c = some o) → (∃ o, h'.get? e = some o ∧ o.cls = .type "StopIteration") → wpAny (model prog w) A (do if (← isInstance (.ref e) (.type "StopIteration")) then pure none else throw (.ref e)) Q E { s with heap := h' } := fun h' e k ⟨o, ho, hc⟩ => by
    refine wpAny_bind (wpAny_isInstance (T := "StopIteration") (b := true) ⟨o, ho, hc⟩ isSubtype_stop ?_)
    exact wpAny_pure (hQ h' k)
  unfold pyNext
  refine wpAny_bind (wpAny_attempt (wpAny_callSpecial?_slot (name := Str.ofString "__next__") hT PySem.F.slot_zip_next (wpAny_call_entry PySem.F.slot_zip_next hT PySem.F.entry_zip_next ?_ (PySem.F.args_zip_next_1 _))))
  rcases h4 with ⟨rfl, a1, a2, h5, h6⟩ | ⟨T, f, oT, h5, h6, h7⟩
  · exact zip_none hh S D1 D2 h5 h1 h6 h2 h3 fin
  · exact zip_held_end hh S D1 D2 h5 h6 h1 h2 h3 fin
/-- the pairs laid at as, above lo -/
structure ZG (P1 P2 : Nat → Value → Prop) (lo : Addr) (h : Heap) (as : List Addr) : Prop where
  rise : as.Pairwise (· < ·)
  above : ∀ a ∈ as, lo < a
  pairs : ∀ (j : Nat) (a : Addr), as[j]? = some a → ∃ x1 x2, P1 j x1 ∧ P2 j x2 ∧ h.get? a = some { cls := .type "tuple", data := .seq #[x1, x2] }
theorem zl_loop {b : Bool} {L : Addr} {R : Result → Shared → Prop} (hh : A.handled = none) (S : ZipSep2 z TI TO i1 i2 fp1 fp2) (D1 : Draws prog w A.in1.in1 i1 fp1 n P1 St1) (D2 : Draws prog w A.in1.in1 i2 fp2 n P2 St2) (hL : L ∉ fp1 ∧ L ∉ fp2 ∧ L ≠ z ∧ L ≠ TI ∧ L ≠ TO) (lz : z < L) (lTO : TO < L) (l1 : i1 < L) (l2 : i2 < L) (hn : n ≤ PySem.sizeLine) (res : Value) {h0 : Heap}
    (hR : ∀ h' tk acc c as, (∀ b o, b ≠ L → b ≠ z → b ≠ TO → b ≠ i1 → b ≠ i2 → h0.get? b = some o → h'.get? b = some o) → h'.get? L = some { cls := .type "list", dict := none, data := .seq acc c, slots := #[] } → as.length = n → ZG P1 P2 L h' as → acc.toList = as.map Value.ref → R (.ok (.ret res)) { s with heap := h', toks := tk }) :
    ∀ (k i : Nat) (h : Heap) (tk c : Nat) (acc : Array Value) (as : List Addr), n - i = k → i ≤ n → ZSt b z TI TO i1 i2 L St1 St2 i h → (∀ b o, b ≠ L → b ≠ z → b ≠ TO → b ≠ i1 → b ≠ i2 → h0.get? b = some o → h.get? b = some o) →
      h.get? L = some { cls := .type "list", dict := none, data := .seq acc c, slots := #[] } → acc.toList = as.map Value.ref → as.length = i → ZG P1 P2 L h as →
      codeAny (model prog w) A (.builtin "list.extend.loop" ⟨[.ref L, .ref z, res], []⟩) R { s with heap := h, toks := tk } := by
  intro k
  induction k with
  | zero =>
    intro i h tk c acc as hk hi hst hkeep hS hacc hal hG
    have hin : i = n := by omega
    subst hin
    refine codeAny_builtin PySem.F.entry_extend_loop ?_
    rw [Around.under_plainId PySem.F.plain_extend_loop _]
    show wpAny _ A.in1 (pyNext (.ref z) >>= _) _ _ _
    refine wpAny_bind (zn_end (s := { s with heap := h, toks := tk }) (A := A.in1) hh S D1 D2 hst fun h' he => ?_)
    refine wpAny_pure (hR h' tk acc c as (fun b o h1 h2 h3 h4 h5 e => he b o h2 h4 h5 (hkeep b o h1 h2 h3 h4 h5 e)) (he L _ (Nat.ne_of_gt lz) (Nat.ne_of_gt l1) (Nat.ne_of_gt l2) hS) hal ⟨hG.rise, hG.above, fun j a hj => ?_⟩ hacc)
    obtain ⟨x1, x2, e1, e2, e3⟩ := hG.pairs j a hj
    have ha := hG.above a (List.mem_of_getElem? hj)
    exact ⟨x1, x2, e1, e2, he a _ (Nat.ne_of_gt (Nat.lt_trans lz ha)) (Nat.ne_of_gt (Nat.lt_trans l1 ha)) (Nat.ne_of_gt (Nat.lt_trans l2 ha)) e3⟩
  | succ k ih =>
    intro i h tk c acc as hk hi hst hkeep hS hacc hal hG
    have hlt : i < n := by omega
    have hsz : acc.size = i := by rw [← Array.length_toList, hacc, List.length_map, hal]
    have hSl : L < h.objs.size := Heap.lt_size hS
    refine codeAny_builtin PySem.F.entry_extend_loop ?_
    rw [Around.under_plainId PySem.F.plain_extend_loop _]
    show wpAny _ A.in1 (pyNext (.ref z) >>= _) _ _ _
    refine wpAny_bind (zn_item (s := { s with heap := h, toks := tk }) (A := A.in1) S D1 D2 hst hlt hSl fun x1 x2 h' tk' p1 p2 hst' ht hz hkp => ?_)
    dsimp only at ht hz hkp ⊢
    have hS' := hkp L _ (Nat.ne_of_gt lz) (Nat.ne_of_gt lTO) (Nat.ne_of_gt l1) (Nat.ne_of_gt l2) hS
    have up : ∀ b o, b ≠ L → h'.get? b = some o → (h'.update L (Obj.mapSeq (·.push (Value.ref h.objs.size)))).get? b = some o := fun b o hb e => (Heap.get?_update_other _ _ (Ne.symm hb)).trans e
    show wpAny _ A.in1 (updateSeq L (·.push (Value.ref h.objs.size)) >>= _) _ _ _
    refine wpAny_bind ?_
    refine wpAny_updateSeq (s := { s with heap := h', toks := tk' }) hS' rfl (wpAny_pure ⟨plainId_quiet PySem.F.plain_extend_loop _, ih (i + 1) _ tk' _ (acc.push (Value.ref h.objs.size)) (as ++ [h.objs.size]) (by omega) hlt (hst'.at_ S D1 D2 hL up)
      (fun b o h1 h2 h3 h4 h5 e => up b o h1 (hkp b o h2 h3 h4 h5 (hkeep b o h1 h2 h3 h4 h5 e))) (Heap.get?_update_self _ hS' rfl) (by rw [Array.toList_push, hacc, List.map_append]; rfl) (by rw [List.length_append, hal]; rfl) ⟨?_, ?_, ?_⟩⟩) (by rw [hsz]; omega) (by show (acc.push (Value.ref h.objs.size)).size ≤ PySem.sizeLine + 1; rw [Array.size_push, hsz]; omega)
    · refine List.pairwise_append.mpr ⟨hG.rise, List.pairwise_singleton _ _, fun a ha b hb => ?_⟩
      rw [List.mem_singleton.mp hb]
      obtain ⟨j, hj⟩ := List.mem_iff_getElem?.mp ha
      obtain ⟨_, _, _, _, e⟩ := hG.pairs j a hj
      exact Heap.lt_size e
    · intro a ha
      rcases List.mem_append.mp ha with ha | ha
      · exact hG.above a ha
      · rw [List.mem_singleton.mp ha]
        exact hSl
    · intro j b hj
      rcases Nat.lt_trichotomy j as.length with q | q | q
      · rw [List.getElem?_append_left q] at hj
        obtain ⟨y1, y2, e1, e2, e3⟩ := hG.pairs j b hj
        have hb := hG.above b (List.mem_of_getElem? hj)
        exact ⟨y1, y2, e1, e2, up b _ (Nat.ne_of_gt hb) (hkp b _ (Nat.ne_of_gt (Nat.lt_trans lz hb)) (Nat.ne_of_gt (Nat.lt_trans lTO hb)) (Nat.ne_of_gt (Nat.lt_trans l1 hb)) (Nat.ne_of_gt (Nat.lt_trans l2 hb)) e3)⟩
      · subst q
        have hb : h.objs.size = b := by simpa using hj
        subst hb
        exact ⟨x1, x2, by rw [hal]; exact p1, by rw [hal]; exact p2, up _ _ (Nat.ne_of_gt hSl) ht⟩
      · have hnone : (as ++ [h.objs.size])[j]? = none := List.getElem?_eq_none (by rw [List.length_append, List.length_singleton]; omega)
        rw [hnone] at hj
        cases hj
theorem zip_no_len : typeLookup (.type "zip") "__len__" = pure none := am_miss_of_fast (by decide +kernel)
theorem zip_no_hint : typeLookup (.type "zip") "__length_hint__" = pure none := am_miss_of_fast (by decide +kernel)
theorem zl_iter {Q : Value → Shared → Prop} (hT : s.TypeIs (.ref z) "zip") (h : Q (.ref z) s) : wpAny (model prog w) A (pyIter (.ref z)) Q E s := by
  refine wpAny_pyIter_slot hT PySem.F.slot_zip_iter (wpAny_call_entry PySem.F.slot_zip_iter hT PySem.F.entry_zip_iter ?_ (PySem.F.args_zip_iter_1 _))
  show wpAny _ _ (ret (.ref z)) _ _ s
  exact wpAny_pure ⟨_, rfl, "zip", _, hT, PySem.F.slot_zip_next.lookup, h⟩
theorem zl_hint {Q : Bool → Shared → Prop} (hT : s.TypeIs (.ref z) "zip") (h : Q true s) : wpAny (model prog w) A (Builtin.List.listLengthHint (.ref z)) Q E s := by
  unfold Builtin.List.listLengthHint
  refine wpAny_bind (wpAny_specialOf hT zip_no_len ?_)
  refine wpAny_bind (wpAny_specialOf hT zip_no_hint ?_)
  exact wpAny_pure h
section
variable {b : Bool} {L : Addr}
theorem zl_extend {R : Result → Shared → Prop} (hh : A.handled = none) (S : ZipSep2 z TI TO i1 i2 fp1 fp2) (D1 : Draws prog w A.in1.in1 i1 fp1 n P1 St1) (D2 : Draws prog w A.in1.in1 i2 fp2 n P2 St2) (hL : L ∉ fp1 ∧ L ∉ fp2 ∧ L ≠ z ∧ L ≠ TI ∧ L ≠ TO) (lz : z < L) (lTO : TO < L) (l1 : i1 < L) (l2 : i2 < L) (hn : n ≤ PySem.sizeLine) (res : Value) (c0 : Nat) (hS : s.heap.get? L = some { cls := .type "list", data := .seq #[] c0 }) (hst : ZSt b z TI TO i1 i2 L St1 St2 0 s.heap)
    (hR : ∀ h' tk acc c as, (∀ b o, b ≠ L → b ≠ z → b ≠ TO → b ≠ i1 → b ≠ i2 → s.heap.get? b = some o → h'.get? b = some o) → h'.get? L = some { cls := .type "list", dict := none, data := .seq acc c, slots := #[] } → as.length = n → ZG P1 P2 L h' as → acc.toList = as.map Value.ref → R (.ok (.ret res)) { s with heap := h', toks := tk }) :
    wpAny (model prog w) A.in1 (Builtin.List.listExtendWith (.ref L) (.ref z) res) (fun fin s' => match fin with | .done f => R (.ok f) s' | .again c' => c'.quiet = true ∧ codeAny (model prog w) A c' R s') (fun e s' => R (.error e) s') s := by
  have hT := hst.type
  have key : ∀ (h : Heap) (c1 tk : Nat), (∀ b o, b ≠ L → s.heap.get? b = some o → h.get? b = some o) → h.get? L = some { cls := .type "list", data := .seq #[] c1 } → codeAny (model prog w) A (.builtin "list.extend.loop" ⟨[.ref L, .ref z, res], []⟩) R { s with heap := h, toks := tk } := by
    intro h c1 tk hk hS1
    exact zl_loop (s := s) (h0 := s.heap) hh S D1 D2 hL lz lTO l1 l2 hn res hR n 0 h tk c1 #[] [] (Nat.sub_zero _) (Nat.zero_le _) (hst.at_ S D1 D2 hL fun b o hb e => hk b o hb e) (fun b o hb _ _ _ _ e => hk b o hb e) hS1 rfl rfl
      ⟨List.Pairwise.nil, (fun _ ha => nomatch ha), (fun j a hj => by simp at hj)⟩
  unfold Builtin.List.listExtendWith
  refine wpAny_bind (wpAny_typeOf (T := "zip") hT ?_)
  have q1 : Builtin.List.listSameRef (.ref L) (.ref z) = false := by simp [Builtin.List.listSameRef, hL.2.2.1]
  have q2 : (Value.type "zip" == Value.type "list") = false := by decide
  have q3 : (Value.type "zip" == Value.type "tuple") = false := by decide
  simp only [q1, q2, q3, Bool.or_false, Bool.false_eq_true, if_false]
  refine wpAny_bind (zl_iter hT ?_)
  refine wpAny_bind (wpAny_holding (zl_hint hT ?_))
  refine wpAny_ite_split (fun _ => ?_) (fun hab => absurd rfl hab)
  refine wpAny_bind (wpAny_rule ?_)
  refine wpAny_bind ?_
  show wpAny _ _ (updateSeq L (·.push .none) >>= fun _ => updateSeq L (·.pop)) _ _ _
  refine wpAny_bind (wpAny_updateSeq hS rfl ?_)
  have hS2 := Heap.get?_update_self (Obj.mapSeq (·.push Value.none)) hS rfl
  refine wpAny_updateSeq (hz := by seq_fits) hS2 rfl ?_
  have hS3 := Heap.get?_update_self (Obj.mapSeq (·.pop)) hS2 rfl
  refine wpAny_pure ⟨plainId_quiet PySem.F.plain_extend_loop _, key _ _ _ (fun b o hb e => ?_) hS3⟩
  exact (Heap.get?_update_other _ _ (Ne.symm hb)).trans ((Heap.get?_update_other _ _ (Ne.symm hb)).trans e)
theorem zl_init {R : Result → Shared → Prop} (hh : A.handled = none) (S : ZipSep2 z TI TO i1 i2 fp1 fp2) (D1 : Draws prog w A.in1.in1 i1 fp1 n P1 St1) (D2 : Draws prog w A.in1.in1 i2 fp2 n P2 St2) (hL : L ∉ fp1 ∧ L ∉ fp2 ∧ L ≠ z ∧ L ≠ TI ∧ L ≠ TO) (lz : z < L) (lTO : TO < L) (l1 : i1 < L) (l2 : i2 < L) (hn : n ≤ PySem.sizeLine) (hS : s.heap.get? L = some { cls := .type "list", data := .seq #[] }) (hst : ZSt b z TI TO i1 i2 L St1 St2 0 s.heap)
    (hR : ∀ h' tk acc c as, (∀ b o, b ≠ L → b ≠ z → b ≠ TO → b ≠ i1 → b ≠ i2 → s.heap.get? b = some o → h'.get? b = some o) → h'.get? L = some { cls := .type "list", dict := none, data := .seq acc c, slots := #[] } → as.length = n → ZG P1 P2 L h' as → acc.toList = as.map Value.ref → R (.ok (.ret .none)) { s with heap := h', toks := tk }) :
    wpAny (model prog w) A.in1 (Builtin.«list.__init__» ⟨[.ref L, .ref z], []⟩) (fun fin s' => match fin with | .done f => R (.ok f) s' | .again c' => c'.quiet = true ∧ codeAny (model prog w) A c' R s') (fun e s' => R (.error e) s') s := by
  show wpAny _ _ (do let old ← Builtin.List.listItems (.ref L); Builtin.List.listUpdate (.ref L) (fun _ => #[]); letGo old.toList.reverse; Builtin.List.listExtendWith (.ref L) (.ref z) .none) _ _ s
  refine wpAny_bind ?_
  unfold Builtin.List.listItems
  refine wpAny_bind (wpAny_seqItems hS rfl (wpAny_pure ?_))
  show wpAny _ _ (updateSeq L (fun _ => #[]) >>= fun _ => letGo (#[] : Array Value).toList.reverse >>= fun _ => Builtin.List.listExtendWith (.ref L) (.ref z) .none) _ _ s
  refine wpAny_bind (wpAny_updateSeq hS rfl ?_)
  have hS2 := Heap.get?_update_self (Obj.mapSeq (fun _ => (#[] : Array Value))) hS rfl
  have oth : ∀ b o, b ≠ L → s.heap.get? b = some o → (s.heap.update L (Obj.mapSeq (fun _ => (#[] : Array Value)))).get? b = some o := fun b o hb e => (Heap.get?_update_other _ _ (Ne.symm hb)).trans e
  refine wpAny_bind (wpAny_letGo ?_)
  refine zl_extend hh S D1 D2 hL lz lTO l1 l2 hn .none _ hS2 (hst.at_ S D1 D2 hL oth) fun h' tk acc c as hk hS' hl hG hacc => ?_
  exact hR h' tk acc c as (fun b o q1 q2 q3 q4 q5 e => hk b o q1 q2 q3 q4 q5 (oth b o q1 e)) hS' hl hG hacc
/-- list(z), z a new zip of as many pairs as both have -/
theorem zl_call {Q : Value → Shared → Prop} (hh : A.handled = none) (S : ZipSep2 z TI TO i1 i2 fp1 fp2) (D1 : Draws prog w A.in1.in1.in1 i1 fp1 n P1 St1) (D2 : Draws prog w A.in1.in1.in1 i2 fp2 n P2 St2) (hn : n ≤ PySem.sizeLine) (hst : ZSt b z TI TO i1 i2 s.heap.objs.size St1 St2 0 s.heap) (hL : s.heap.objs.size ∉ fp1 ∧ s.heap.objs.size ∉ fp2) (lTO : TO < s.heap.objs.size) (lTI : TI < s.heap.objs.size)
    (hQ : ∀ h' tk acc c as, (∀ b o, b ≠ z → b ≠ TO → b ≠ i1 → b ≠ i2 → s.heap.get? b = some o → h'.get? b = some o) → h'.get? s.heap.objs.size = some { cls := .type "list", dict := none, data := .seq acc c, slots := #[] } → as.length = n → ZG P1 P2 s.heap.objs.size h' as → acc.toList = as.map Value.ref → Q (.ref s.heap.objs.size) { s with heap := h', toks := tk }) :
    wpAny (model prog w) A (call (.type "list") [.ref z]) Q E s := by
  obtain ⟨oz, hoz, _⟩ := hst.type
  have lz : z < s.heap.objs.size := Heap.lt_size hoz
  obtain ⟨_, h2, h3, _⟩ := id hst
  obtain ⟨o1, ho1⟩ := D1.live _ _ h2
  obtain ⟨o2, ho2⟩ := D2.live _ _ h3
  have l1 := Heap.lt_size ho1
  have l2 := Heap.lt_size ho2
  refine callType_codes (Q₁ := fun obj s₁ => obj = .ref s.heap.objs.size ∧ s₁ = { s with heap := s.heap.push { cls := .type "list", data := .seq #[] } }) PySem.F.called_list (PySem.F.typeCall_list_1 _) PySem.F.entry_list_init
    (code_list_new _ ⟨rfl, rfl⟩) fun obj s₁ h₁ => ?_
  obtain ⟨rfl, rfl⟩ := h₁
  have hS : (s.heap.push { cls := .type "list", data := .seq #[] }).get? s.heap.objs.size = some { cls := .type "list", data := .seq #[] } := Heap.get?_push_size _ rfl
  refine ⟨⟨_, hS, rfl⟩, PySem.F.args_list_init_2 _ _, zl_init (A := A.in1) (s := { s with heap := s.heap.push { cls := .type "list", data := .seq #[] } }) hh S D1 D2 ⟨hL.1, hL.2, Nat.ne_of_gt lz, Nat.ne_of_gt lTI, Nat.ne_of_gt lTO⟩ lz lTO l1 l2 hn hS
    (hst.at_ S D1 D2 ⟨hL.1, hL.2, Nat.ne_of_gt lz, Nat.ne_of_gt lTI, Nat.ne_of_gt lTO⟩ fun b o _ e => Heap.get?_push_of_some _ e) fun h' tk acc c as hk hS' hl hG hacc => ?_⟩
  exact ⟨rfl, hQ h' tk acc c as (fun b o q2 q3 q4 q5 e => hk b o (Nat.ne_of_lt (Heap.lt_size e)) q2 q3 q4 q5 (Heap.get?_push_of_some _ e)) hS' hl hG hacc⟩
end
end
end PC
end
section
set_option Elab.async false
set_option linter.all false
set_option maxRecDepth 100000
set_option maxHeartbeats 4000000
/-! PC: zip(a, b, strict=True) begins. -/
namespace PC
open PySem PySem.Spec PyProof.Rows
theorem zs_type (a b c : Value) : checkTypeCall "zip" ⟨[a, b], [(Str.ofString "strict", c)]⟩ = pure () := by kernel_rfl
theorem zs_new (a b c : Value) : checkBuiltinCall "zip.__new__" ⟨[.type "zip", a, b], [(Str.ofString "strict", c)]⟩ = pure () := by kernel_rfl
theorem zs_init (o a b c : Value) : argsOk "object.__init__" ⟨[o, a, b], [(Str.ofString "strict", c)]⟩ := by unfold argsOk; kernel_rfl
/-- the new zip's heap -/
abbrev zsZ (b : Bool) (h : Heap) (o1 o2 : Obj) : Heap := (gzO2 h o1 o2).push { cls := .type "zip", data := .fields #[.none, .bool false, .bool b, .ref ((h.push o1).push o2).objs.size, .ref (gzT2 h o1 o2).objs.size] }
theorem zs_meets {v1 v2 : Value} {o1 o2 : Obj} {H1 H2 : Heap → Prop} (B1 : Begins v1 o1 H1) (B2 : Begins v2 o2 H2) :
    Meets (Builtin.«zip.__new__» ⟨[.type "zip", v1, v2], [(Str.ofString "strict", .bool true)]⟩) (fun _ R s => (H1 s.heap ∧ H2 s.heap) ∧ R (.ok (.ret (.ref (gzO2 s.heap o1 o2).objs.size))) { s with heap := zsZ true s.heap o1 o2 }) :=
  .of_wp fun prog w A R s h => by
    obtain ⟨hp, g, d, tk, os⟩ := s
    obtain ⟨⟨h1, h2⟩, h⟩ := h
    have hsub := sub_zip
    have q1 : ∀ {A' : Around} {E : Value → Shared → Prop} {Q : Value → Shared → Prop}, Q (.ref hp.objs.size) ⟨(hp.push o1), g, d, tk, os⟩ → wpAny (model prog w) A' (pyIter v1) Q E ⟨hp, g, d, tk, os⟩ :=
      fun q => B1.iter prog w _ _ ⟨hp, g, d, tk, os⟩ _ h1 q
    have q2 : ∀ {A' : Around} {E : Value → Shared → Prop} {Q : Value → Shared → Prop}, Q (.ref (hp.push o1).objs.size) ⟨((hp.push o1).push o2), g, d, tk, os⟩ → wpAny (model prog w) A' (pyIter v2) Q E ⟨(hp.push o1), g, d, tk, os⟩ :=
      fun q => B2.iter prog w _ _ ⟨(hp.push o1), g, d, tk, os⟩ _ (B2.keeps _ _ h2 fun b o' e => Heap.get?_push_of_some _ e) q
    have e1 : (Str.ofString "strict" == ("strict" : Str)) = true := by decide +kernel
    have e2 : (Str.ofString "strict" != ("strict" : Str)) = false := by decide +kernel
    wp_walk using q1, q2
    exact ⟨_, rfl, h⟩
end PC
end
section
set_option Elab.async false
set_option linter.all false
set_option maxRecDepth 100000
set_option maxHeartbeats 4000000
/-! PC: list(zip(a, b)). -/
namespace PC
open PySem PySem.Spec PyProof.Rows
section
variable {prog : Program} {w : World} {A : Around} {E : Value → Shared → Prop} {s : Shared}
def zsKw : Bool → List (Str × Value)
  | true => [(Str.ofString "strict", .bool true)]
  | false => []
theorem zb_begins (b : Bool) {v1 v2 : Value} {o1 o2 : Obj} {H1 H2 : Heap → Prop} {Q : Value → Shared → Prop} (B1 : Begins v1 o1 H1) (B2 : Begins v2 o2 H2) (h1 : H1 s.heap) (h2 : H2 s.heap)
    (h : ∀ h', ZipO b h' (s.heap.objs.size + 4) (s.heap.objs.size + 2) (s.heap.objs.size + 3) .none false → IsTupOf2 h' (s.heap.objs.size + 2) (.ref s.heap.objs.size) (.ref (s.heap.objs.size + 1)) →
      IsTupOf2 h' (s.heap.objs.size + 3) .none .none → h'.get? s.heap.objs.size = some o1 → h'.get? (s.heap.objs.size + 1) = some o2 → h'.objs.size = s.heap.objs.size + 5 →
      (∀ c o, s.heap.get? c = some o → h'.get? c = some o) → Q (.ref (s.heap.objs.size + 4)) { s with heap := h' }) :
    wpAny (model prog w) A (call (.type "zip") [v1, v2] (zsKw b)) Q E s := by
  cases b with
  | false => exact zip_begins2 B1 B2 h1 h2 h
  | true =>
    refine callType_newKw PySem.F.called_zip (by decide) (zs_type _ _ _) (zs_new _ _ _) (fun obj => zs_init obj _ _ _) PySem.F.entry_zip_new (zs_meets B1 B2) ⟨⟨h1, h2⟩, ?_⟩
    have z1 : (s.heap.push o1).objs.size = s.heap.objs.size + 1 := by rw [Heap.size_push]
    have z2 : ((s.heap.push o1).push o2).objs.size = s.heap.objs.size + 2 := by rw [Heap.size_push, z1]
    have zT : (gzT2 s.heap o1 o2).objs.size = s.heap.objs.size + 3 := by rw [Heap.size_push, z2]
    have zO : (gzO2 s.heap o1 o2).objs.size = s.heap.objs.size + 4 := by rw [Heap.size_push, zT]
    have zZ : (zsZ true s.heap o1 o2).objs.size = s.heap.objs.size + 5 := by rw [Heap.size_push, zO]
    have gZ : (zsZ true s.heap o1 o2).get? (gzO2 s.heap o1 o2).objs.size = some _ := Heap.get?_push_size _ rfl
    have gO : (zsZ true s.heap o1 o2).get? (gzT2 s.heap o1 o2).objs.size = some _ := Heap.get?_push_of_some _ (Heap.get?_push_size _ rfl)
    have gT : (zsZ true s.heap o1 o2).get? ((s.heap.push o1).push o2).objs.size = some _ := Heap.get?_push_of_some _ (Heap.get?_push_of_some _ (Heap.get?_push_size _ rfl))
    have g1 : (zsZ true s.heap o1 o2).get? s.heap.objs.size = some o1 := Heap.get?_push_of_some _ (Heap.get?_push_of_some _ (Heap.get?_push_of_some _ (Heap.get?_push_of_some _ (Heap.get?_push_size _ B1.free))))
    have g2 : (zsZ true s.heap o1 o2).get? (s.heap.push o1).objs.size = some o2 := Heap.get?_push_of_some _ (Heap.get?_push_of_some _ (Heap.get?_push_of_some _ (Heap.get?_push_size _ B2.free)))
    rw [zO, zT, z2] at gZ
    rw [zT] at gO
    rw [z2, z1] at gT
    rw [z1] at g2
    show _ ∧ _
    rw [zO]
    exact ⟨⟨_, gZ, rfl⟩, h _ gZ gT gO g1 g2 zZ fun c o e => Heap.get?_push_of_some _ (Heap.get?_push_of_some _ (Heap.get?_push_of_some _ (Heap.get?_push_of_some _ (Heap.get?_push_of_some _ e))))⟩
/-- a list or a tuple as what a zip draws from -/
structure ZSrc (prog : Program) (w : World) (h : Heap) (l : Addr) (its : List Value) : Prop where
  ex : ∃ (o : Obj) (Hf : Heap → Prop), Begins (.ref l) o Hf ∧ Hf h ∧ l < h.objs.size ∧ ∀ it : Addr, l ≠ it → ∃ St : Nat → Heap → Prop,
    (∀ A : Around, A.handled = none → Draws prog w A it [it, l] its.toArray.size (fun i v => its.toArray[i]? = some v) St) ∧ ∀ h', h'.get? it = some o → Hf h' → St 0 h'
theorem zsrc_list {l : Addr} {its : List Value} {h : Heap} (hl : h.IsList l its.toArray) : ZSrc prog w h l its := by
  obtain ⟨o, ho, _⟩ := id hl
  exact ⟨_, _, begins_list l its.toArray, hl, Heap.lt_size ho, fun it hne => ⟨_, fun A hh => Draws.list hh it l hne its.toArray, fun h' e q => ⟨⟨_, e, rfl, rfl⟩, q⟩⟩⟩
theorem zsrc_tup {l : Addr} {its : List Value} {h : Heap} (hl : h.IsTuple l its.toArray) : ZSrc prog w h l its := by
  obtain ⟨o, ho, _⟩ := id hl
  exact ⟨_, _, begins_tuple l its.toArray, hl, Heap.lt_size ho, fun it hne => ⟨_, fun A hh => Draws.tuple hh it l hne its.toArray, fun h' e q => ⟨⟨_, e, rfl, rfl⟩, q⟩⟩⟩
theorem ltn {a b : Nat} (h : @LT.lt Addr instLTNat a b) : a < b := h
theorem nn {a b : Nat} (h : a ≠ b) : @Ne Addr a b := h
theorem nmem2 {a b c : Addr} (h1 : a ≠ b) (h2 : a ≠ c) : a ∉ [b, c] := by simp [h1, h2]
theorem sep_of {m l1 l2 : Nat} (h1 : l1 < m) (h2 : l2 < m) : ZipSep2 (m + 4) (m + 2) (m + 3) m (m + 1) [m, l1] [m + 1, l2] :=
  ⟨nn (by omega), nn (by omega), nn (by omega), nn (by omega), List.mem_cons_self, nmem2 (nn (by omega)) (nn (by omega)), nmem2 (nn (by omega)) (nn (by omega)), nn (by omega), List.mem_cons_self, nmem2 (nn (by omega)) (nn (by omega)), nmem2 (nn (by omega)) (nn (by omega)), nmem2 (nn (by omega)) (nn (by omega)), nmem2 (nn (by omega)) (nn (by omega))⟩
/-- list(zip(l1, l2)) of as many -/
theorem zl_run (b : Bool) {l1 l2 : Addr} {xs ys : List Value} {Q : Value → Shared → Prop} (hh : A.handled = none) (s1 : ZSrc prog w s.heap l1 xs) (s2 : ZSrc prog w s.heap l2 ys) (hlen : xs.length = ys.length) (hz : xs.length ≤ PySem.sizeLine)
    (h : ∀ (h' : Heap) (tk : Nat) (acc : Array Value) (c : Nat) (p : Addr) (as : List Addr), (∀ b o, s.heap.get? b = some o → h'.get? b = some o) → s.heap.objs.size ≤ p → h'.get? p = some { cls := .type "list", dict := none, data := .seq acc c, slots := #[] } → as.length = xs.length →
      ZG (fun i v => xs.toArray[i]? = some v) (fun i v => ys.toArray[i]? = some v) p h' as → acc.toList = as.map Value.ref → Q (.ref p) { s with heap := h', toks := tk }) :
    wpAny (model prog w) A (call (.type "zip") [.ref l1, .ref l2] (zsKw b)) (fun zv s2 => wpAny (model prog w) A (call (.type "list") [zv]) Q E s2) E s := by
  obtain ⟨o1, H1, B1, hH1, lt1, k1⟩ := s1
  obtain ⟨o2, H2, B2, hH2, lt2, k2⟩ := s2
  refine zb_begins b B1 B2 hH1 hH2 fun h' hz0 hTI hTO g1 g2 hs hk => ?_
  obtain ⟨St1, D1, i1⟩ := k1 s.heap.objs.size (Nat.ne_of_lt lt1)
  obtain ⟨St2, D2, i2⟩ := k2 (s.heap.objs.size + 1) (Nat.ne_of_lt (Nat.lt_succ_of_lt lt2))
  have e1 : xs.toArray.size = xs.length := by simp
  have e2 : ys.toArray.size = xs.length := by simp [hlen]
  rw [e1] at D1
  rw [e2] at D2
  have S : ZipSep2 (s.heap.objs.size + 4) (s.heap.objs.size + 2) (s.heap.objs.size + 3) s.heap.objs.size (s.heap.objs.size + 1) [s.heap.objs.size, l1] [s.heap.objs.size + 1, l2] := sep_of lt1 lt2
  have st : ZSt b (s.heap.objs.size + 4) (s.heap.objs.size + 2) (s.heap.objs.size + 3) s.heap.objs.size (s.heap.objs.size + 1) h'.objs.size St1 St2 0 h' := ⟨hTI, i1 h' g1 (B1.keeps _ _ hH1 hk), i2 h' g2 (B2.keeps _ _ hH2 hk), .inl ⟨rfl, .none, .none, hz0, hTO⟩⟩
  have hs' : h'.objs.size = s.heap.objs.size + 5 := hs
  have n1 := ltn lt1
  have n2 := ltn lt2
  refine zl_call (s := { s with heap := h' }) hh S (D1 _ hh) (D2 _ hh) hz st ?_ ?_ ?_ fun h2 tk acc c as q1 q2 q3 q4 q5 => ?_
  · show h'.objs.size ∉ [s.heap.objs.size, l1] ∧ h'.objs.size ∉ [s.heap.objs.size + 1, l2]
    rw [hs']
    exact ⟨nmem2 (nn (by omega)) (nn (by omega)), nmem2 (nn (by omega)) (nn (by omega))⟩
  · show (s.heap.objs.size + 3 : Nat) < h'.objs.size
    omega
  · show (s.heap.objs.size + 2 : Nat) < h'.objs.size
    omega
  refine h h2 tk acc c h'.objs.size as (fun b o e => ?_) ?_ q2 q3 q4 q5
  · have hb := ltn (Heap.lt_size e)
    exact q1 b o (nn (by omega)) (nn (by omega)) (nn (by omega)) (nn (by omega)) (hk b o e)
  · show (s.heap.objs.size : Nat) ≤ h'.objs.size
    omega
end
end PC
end
section
set_option Elab.async false
set_option linter.all false
set_option maxRecDepth 100000
set_option maxHeartbeats 4000000
/-! PC: list(zip(a, b)) at PC's store. -/
namespace PC
open PySem L2
section
variable {M : Model} {A : Around} {E : Value → Shared → Prop} {s : Shared} {env : Env}
theorem callWith_typeK {pos : Pos} {T : String} {e : Expr} {rest : List Expr} {kws : List Keyword} {Q : Value → Shared → Prop}
    (h : wpAny M A (spliced (backTo pos (starEach (e :: rest) env))) (fun vs s₁ => wpAny M A (evalAll ((backToKw pos (keywordEach kws env)).map (·.2)))
      (fun kvs s₂ => wpAny M A (PySem.call (.type T) vs (((backToKw pos (keywordEach kws env)).filterMap (·.1)).zip kvs)) Q E s₂) E s₁) E s)
    (he : backTo pos (starEach (e :: rest) env) = (false, eval e env) :: backTo pos (starEach rest env)) (hplain : (backTo pos (starEach (e :: rest) env)).any (·.1) = false)
    (hall : (backToKw pos (keywordEach kws env)).all (·.1.isSome) = true) (hkw : (backToKw pos (keywordEach kws env)).any (·.1.isNone) = false) :
    wpAny M A (callWith pos (.type T) [] (backTo pos (starEach (e :: rest) env)) (backToKw pos (keywordEach kws env))) Q E s := by
  have h2 : wpAny M A (evalArgs (.type T) true (backTo pos (starEach (e :: rest) env)) (backToKw pos (keywordEach kws env))) (fun a s₁ => wpAny M A (PySem.call (.type T) a.pos a.kw) Q E s₁) E s := by
    rw [he] at h ⊢
    exact PyProof.Rows.evalArgs_kwB hall h
  unfold callWith
  refine wpAny_bind (wpAny_holding (wpAny_mono h2 (fun a s₁ h₁ => wpAny_bind (wpAny_standAt ?_)) fun _ _ x => x))
  simp only [hplain, hkw, Bool.or_false]
  refine wpAny_bind (wpAny_pure ?_)
  exact wpAny_bind (wpAny_mono h₁ (fun r s₂ hr => wpAny_bind (wpAny_holding (wpAny_point (wpAny_pure hr)))) fun _ _ x => x)
end
section
variable {W : Wd} {C : Cal} {ι ι' ι1 : List Addr} {S S' S1 : Sto} {H H' H1 : Hp} {X : Cx} {pins : List (Addr × Obj)} {σ : L2.St} {s : Shared}
theorem seq_src (hK : X.K = W.K) (I : L2.Inv X pins σ H s) (R : Rep W ι S H) {d : D} {xs : List D} {x : V} {u : Value} (h : seqD d S = some xs) (hv : DV W ι H d x) (r : RelV x u) :
    ∃ l vs its, x = .ref l ∧ u = Value.ref l ∧ DVs W ι H xs vs ∧ Vals vs its ∧ ZSrc X.prog X.w s.heap l its ∧ vs.length ≤ sizeLine := by
  have lists : ∀ {a : Addr} {vs : List V}, x = .ref a → SqL W.K H a vs → DVs W ι H xs vs → ∃ l vs its, x = .ref l ∧ u = Value.ref l ∧ DVs W ι H xs vs ∧ Vals vs its ∧ ZSrc X.prog X.w s.heap l its ∧ vs.length ≤ sizeLine := fun {a vs} ea hq hz => by
    subst ea
    obtain ⟨its, rv, hl, hlen⟩ := I.list (hK ▸ hq)
    exact ⟨a, vs, its, rfl, r, hz, rv, zsrc_list hl.isList, hlen⟩
  unfold seqD at h
  split at h
  · cases h
    obtain ⟨a, vs, rfl, hq, hz⟩ := hv
    obtain ⟨its, rv, hl, hlen⟩ := I.tuple (hK ▸ hq)
    exact ⟨a, vs, its, rfl, r, hz, rv, zsrc_tup (show s.heap.IsTuple a its.toArray from hl), hlen⟩
  · obtain ⟨a, vs, ea, hq, hz⟩ := lst_sq R h hv
    exact lists ea hq hz
theorem zip_dvs {H' : Hp} : ∀ {xs ys : List D} {vs ws : List V} {as : List Addr}, DVs W ι H' xs vs → DVs W ι H' ys ws → as.length = vs.length → vs.length = ws.length → (∀ (j : Nat) (t : Addr), as[j]? = some t → ∃ v1 v2, vs[j]? = some v1 ∧ ws[j]? = some v2 ∧ H' t = some (.tup [v1, v2])) →
    DVs W ι H' (List.zipWith (fun x y => .tup [x, y]) xs ys) (as.map V.ref)
  | [], _, _, _, as, h1, _, hl, _, _ => by
    cases (show _ = [] from h1)
    cases List.eq_nil_of_length_eq_zero hl
    rfl
  | x :: xs, [], _, _, as, ⟨v, r, e, _, _⟩, h2, hl, hl2, _ => by
    cases (show _ = [] from h2)
    subst e
    cases hl2
  | x :: xs, y :: ys, _, _, [], ⟨v, r, e, _, _⟩, _, hl, _, _ => by
    subst e
    cases hl
  | x :: xs, y :: ys, _, _, t :: as, ⟨v, r, e, hx, h1⟩, ⟨w, q, e2, hy, h2⟩, hl, hl2, hp => by
    subst e e2
    obtain ⟨v1, v2, e3, e4, ht⟩ := hp 0 t rfl
    cases e3
    cases e4
    exact ⟨.ref t, _, rfl, ⟨t, [v, w], rfl, .inl (.inl ht), ⟨v, _, rfl, hx, ⟨w, _, rfl, hy, rfl⟩⟩⟩, zip_dvs h1 h2 (Nat.succ.inj hl) (Nat.succ.inj hl2) fun j t' hj => hp (j + 1) t' hj⟩
theorem lzip_run (b : Bool) (hc : X.calm = true) (hK : X.K = W.K) (I : L2.Inv X pins σ H s) (R : Rep W ι S H) {d1 d2 : D} {xs ys : List D} {x y : V} {u1 u2 : Value} {Q : VK} (h1 : seqD d1 S = some xs) (h2 : seqD d2 S = some ys) (v1 : DV W ι H d1 x) (v2 : DV W ι H d2 y) (r1 : RelV x u1) (r2 : RelV y u2) (hl : xs.length = ys.length)
    (g : Gd W ι S H (S ++ [.lst (List.zipWith (fun x y => .tup [x, y]) xs ys)]) (.ref S.length) Q) :
    wpAny (model X.prog X.w) X.A (PySem.call (.type "zip") [u1, u2] (zsKw b)) (fun zv s2 => wpAny (model X.prog X.w) X.A (PySem.call (.type "list") [zv]) (EP X pins σ Q) X.xe s2) X.xe s := by
  obtain ⟨l1, vs, its1, rfl, rfl, hz1, rv1, s1, len1⟩ := seq_src hK I R h1 v1 r1
  obtain ⟨l2, ws, its2, rfl, rfl, hz2, rv2, s2, len2⟩ := seq_src hK I R h2 v2 r2
  have n1 := rv1.length
  have n2 := rv2.length
  have m1 := DVs.length hz1
  have m2 := DVs.length hz2
  refine zl_run b (I.ok.hd hc) s1 s2 (by omega) (by rw [← n1]; exact len1) fun h' tk acc c p as k hp hS hal hG hacc => ?_
  have nd : as.Nodup := hG.rise.imp fun {a b} (h : a < b) => Nat.ne_of_lt h
  have pr : ∀ (j : Nat) (t : Addr), as[j]? = some t → ∃ a1 a2 x1 x2, vs[j]? = some a1 ∧ ws[j]? = some a2 ∧ RelV a1 x1 ∧ RelV a2 x2 ∧ h'.get? t = some { cls := .type "tuple", data := .seq #[x1, x2] } := by
    intro j t hj
    obtain ⟨x1, x2, e1, e2, e3⟩ := hG.pairs j t hj
    have j1 : j < vs.length := by
      have := (List.getElem?_eq_some_iff.mp hj).1
      omega
    have j2 : j < ws.length := by omega
    obtain ⟨y1, f1, f2⟩ := rv1.get (List.getElem?_eq_getElem j1)
    obtain ⟨y2, f3, f4⟩ := rv2.get (List.getElem?_eq_getElem j2)
    have e1' : its1[j]? = some x1 := by simpa using e1
    have e2' : its2[j]? = some x2 := by simpa using e2
    rw [f1] at e1'
    rw [f3] at e2'
    cases e1'
    cases e2'
    exact ⟨_, _, _, _, List.getElem?_eq_getElem j1, List.getElem?_eq_getElem j2, f2, f4, e3⟩
  have hpn : H p = none := I.hok.fresh hp
  have I1 : L2.Inv X pins σ (upd H p (.lst (as.map V.ref))) { s with heap := h', toks := tk } := by
    refine (I.kept (t' := tk) k).take (h' := h') (t' := tk) (fun b ob _ e => e) (I.fpOk hp hpn) ⟨?_, acc.toList, c, ?_, ?_⟩
    · rw [List.length_map, hal, ← n1]
      exact len1
    · rw [hacc]
      exact LiI.vals_refs as
    · rw [Array.toArray_toList]
      exact hS
  obtain ⟨H2, I2, k2, q2⟩ := L2.DX.takeT (P := fun t zs => ∃ (j : Nat) (a1 a2 : V), as[j]? = some t ∧ vs[j]? = some a1 ∧ ws[j]? = some a2 ∧ zs = [a1, a2]) I as (upd H p (.lst (as.map V.ref))) I1 nd fun t ht => by
    obtain ⟨j, hj⟩ := List.mem_iff_getElem?.mp ht
    obtain ⟨a1, a2, x1, x2, f1, f2, f3, f4, f5⟩ := pr j t hj
    have hlt := hG.above t ht
    have hb : s.heap.objs.size ≤ t := Nat.le_of_lt (Nat.lt_of_le_of_lt hp hlt)
    exact ⟨hb, by rw [upd_ne (Nat.ne_of_gt hlt)]; exact I.hok.fresh hb, _, ⟨j, a1, a2, hj, f1, f2, rfl⟩, fun H2 => ⟨by show 2 ≤ sizeLine; decide, [x1, x2], .cons f3 (.cons f4 .nil), ⟨_, f5, rfl, _, rfl⟩⟩⟩
  have at2 : ∀ (j : Nat) (t : Addr), as[j]? = some t → ∃ a1 a2, vs[j]? = some a1 ∧ ws[j]? = some a2 ∧ H2 t = some (.tup [a1, a2]) := by
    intro j t hj
    obtain ⟨zs, ⟨j', a1, a2, e1, e2, e3, e4⟩, e5⟩ := q2 t (List.mem_iff_getElem?.mpr ⟨j, hj⟩)
    obtain ⟨g1, g2⟩ := List.getElem?_eq_some_iff.mp hj
    obtain ⟨g3, g4⟩ := List.getElem?_eq_some_iff.mp e1
    have ej : j' = j := (List.getElem_inj nd).mp (g4.trans g2.symm)
    subst ej
    exact ⟨a1, a2, e2, e3, by rw [e5, e4]⟩
  have kp : ∀ b u, H b = some u → H2 b = some u := fun b u e => k2 b u (by rw [upd_ne (ne_of_none e hpn)]; exact e)
  have hi : ∀ (n : Nat) b, ι[n]? = some b → (ι ++ [p])[n]? = some b := fun n b h => by
    rw [List.getElem?_append_left (List.getElem?_eq_some_iff.mp h).1]
    exact h
  have z1 : DVs W (ι ++ [p]) H2 xs vs := DVs.gen hi (fun a o h _ => kp a o h) _ _ hz1
  have z2 : DVs W (ι ++ [p]) H2 ys ws := DVs.gen hi (fun a o h _ => kp a o h) _ _ hz2
  have hdv := zip_dvs z1 z2 (by omega) (by omega) at2
  obtain ⟨R2, E2⟩ := Rep.lay (u := .lst (List.zipWith (fun x y => .tup [x, y]) xs ys)) R hpn kp ⟨_, k2 _ _ upd_same, hdv⟩
  refine ⟨.ref p, _, I2, rfl, g _ _ _ E2 R2 ⟨p, rfl, ?_⟩⟩
  rw [← R.len, List.getElem?_append_right (Nat.le_refl _)]
  simp
theorem kwz_some {kws : List Keyword} {b : Bool} (h : kwz kws = some b) : (kws = [] ∧ b = false) ∨ ∃ k p kp, kws = [⟨some "strict", .Constant (.bool true) k p, kp⟩] ∧ b = true := by
  unfold kwz at h
  split at h
  · cases h
    exact .inl ⟨rfl, rfl⟩
  · split at h
    · rename_i hw
      cases h
      obtain ⟨rfl, rfl⟩ := hw
      exact .inr ⟨_, _, _, rfl, rfl⟩
    · cases h
  · cases h
theorem lzip_some {t : Bool} {x y : CE} {e : En} {d : D} (h : evE C (.lzip t x y) e S = some (d, S')) : ∃ u S1 v S2 xs ys, evE C x e S = some (u, S1) ∧ evE C y e S1 = some (v, S2) ∧ seqD u S2 = some xs ∧ seqD v S2 = some ys ∧ xs.length = ys.length ∧ new (.lst (List.zipWith (fun x y => .tup [x, y]) xs ys)) S2 = some (d, S') := by
  simp only [evE] at h
  obtain ⟨u, S1, e1, h⟩ := bnd_some h
  obtain ⟨v, S2, e2, h⟩ := bnd_some h
  split at h
  · rename_i xs ys h1 h2
    split at h
    · rename_i hl
      exact ⟨u, S1, v, S2, xs, ys, e1, e2, h1, h2, hl, h⟩
    · cases h
  · cases h
theorem ok_lzip {a b : Expr} {ca cb : CE} {kws : List Keyword} {t : Bool} {p p2 q pos : Pos} (hc : X.calm = true) (hK : X.K = W.K) (hg : Gl X "list") (hm : X.mg "list" = none) (hg2 : Gl X "zip") (hm2 : X.mg "zip" = none) (ha : PE X a (rdE W C ca)) (hb : PE X b (rdE W C cb)) (hs : notStar a = true) (hs2 : notStar b = true) (hk : kwz kws = some t) :
    PE X (.Call (.Name "list" p) [.Call (.Name "zip" p2) [a, b] kws q] [] pos) (rdE W C (.lzip t ca cb)) := by
  have args : PA X [a, b] (rdA W C (.cons ca (.cons cb .nil))) := ok_cons ha (ok_cons hb ok_nil hs2) hs
  have fin : ∀ (pins : List (Addr × Obj)) (s : Shared) (σ : L2.St) (H : Hp) (Q : VK) (vs : List V) (us : List Value), L2.Inv X pins σ H s → Vals vs us → (∃ ι S S' u v xs ys d, Rep W ι S H ∧ DVs W ι H [u, v] vs ∧ seqD u S = some xs ∧ seqD v S = some ys ∧ xs.length = ys.length ∧ new (.lst (List.zipWith (fun x y => .tup [x, y]) xs ys)) S = some (d, S') ∧ Gd W ι S H S' d Q) →
      wpAny (model X.prog X.w) X.A (PySem.call (.type "zip") us (zsKw t)) (fun zv s' => wpAny (model X.prog X.w) X.A (spliced (backTo pos (starEach [] X.env))) (fun vs s₁ => wpAny (model X.prog X.w) X.A (PySem.call (.type "list") (zv :: vs)) (EP X pins σ Q) X.xe s₁) X.xe s') X.xe s := by
    intro pins s σ H Q vs us I r ⟨ι, S, S', u, v, xs, ys, d, R, hd, h1, h2, hl, hn, g⟩
    cases hn
    obtain ⟨x, y, rfl, hx, hy⟩ := two_of hd
    obtain ⟨u1, u2, rfl, r1, r2⟩ := vals2 r
    exact wpAny_mono (lzip_run t hc hK I R h1 h2 hx hy r1 r2 hl g) (fun zv s' z => Calls.spliced_nil z) fun _ _ z => z
  refine ⟨fun pins s σ H Q I ⟨ι, S, e, d, S', R, Ve, ev, g⟩ => ?_⟩
  obtain ⟨u, S1, v, S2, xs, ys, e1, e2, h1, h2, hl, hn⟩ := lzip_some ev
  have ea : evEs C (.cons ca (.cons cb .nil)) e S = some ([u, v], S2) := by
    simp only [evEs, e1, e2, bnd]
  refine wpAny_Call_Name_kw (ld_blt I hg hm boot_list ?_)
  refine PyProof.Rows.callWith_type1 ?_ (star_cons rfl) rfl
  rw [star_cons (es := []) rfl]
  show wpAny _ _ (spliced ((false, eval (.Call (.Name "zip" p2) [a, b] kws q) X.env) :: backTo pos (starEach [] X.env))) _ _ s
  refine Calls.spliced_cons ?_
  refine wpAny_Call_Name_kw (ld_blt I hg2 hm2 PyProof.Rows.boot_zip ?_)
  have he : backTo q (starEach [a, b] X.env) = (false, eval a X.env) :: backTo q (starEach [b] X.env) := by
    rw [star_cons hs]
    rfl
  have hpl : (backTo q (starEach [a, b] X.env)).any (·.1) = false := by
    rw [star_cons hs, star_cons hs2]
    rfl
  rcases kwz_some hk with ⟨rfl, rfl⟩ | ⟨k, kp, kp2, rfl, rfl⟩
  · refine callWith_typeK (thn (args.run q pins s σ H (fun vs H1 => ∃ ι S S' u v xs ys d, Rep W ι S H1 ∧ DVs W ι H1 [u, v] vs ∧ seqD u S = some xs ∧ seqD v S = some ys ∧ xs.length = ys.length ∧ new (.lst (List.zipWith (fun x y => .tup [x, y]) xs ys)) S = some (d, S') ∧ Gd W ι S H1 S' d Q) I (rdA_then R Ve ea fun ι1 H1 vs E1 R1 hv V1 => ⟨ι1, S2, S', u, v, xs, ys, d, R1, hv, h1, h2, hl, hn, g.thru E1 R1⟩)) fun us s1 ⟨vs, H1, I1, r1, q1⟩ => wpAny_evalAll_nil ?_) he hpl rfl rfl
    exact fin pins s1 σ H1 Q vs us I1 r1 q1
  · refine callWith_typeK (thn (args.run q pins s σ H (fun vs H1 => ∃ ι S S' u v xs ys d, Rep W ι S H1 ∧ DVs W ι H1 [u, v] vs ∧ seqD u S = some xs ∧ seqD v S = some ys ∧ xs.length = ys.length ∧ new (.lst (List.zipWith (fun x y => .tup [x, y]) xs ys)) S = some (d, S') ∧ Gd W ι S H1 S' d Q) I (rdA_then R Ve ea fun ι1 H1 vs E1 R1 hv V1 => ⟨ι1, S2, S', u, v, xs, ys, d, R1, hv, h1, h2, hl, hn, g.thru E1 R1⟩)) fun us s1 ⟨vs, H1, I1, r1, q1⟩ => ?_) he hpl rfl rfl
    refine thn ((pk_cons (nm := some "strict") (kpos := kp2) (pe_bl (b := true)) pk_nil).run q pins s1 σ H1 (fun zs H2 => zs = [.bl true] ∧ H2 = H1) I1 ⟨rfl, rfl⟩) fun ws s2 ⟨zs, H2, I2, r2, ez, eh⟩ => ?_
    subst ez eh
    cases r2 with
    | cons r3 r4 =>
      cases r4
      cases r3
      exact fin pins s2 σ H2 Q vs us I2 r1 q1
end
end PC
end
section
set_option Elab.async false
set_option linter.all false
set_option maxRecDepth 100000
set_option maxHeartbeats 1000000
/-! PC: what compiles is shown. -/
namespace PC
open PySem L2
/-- an exception's class that is made -/
structure XcOk (W : Wd) (P : Program) (w : World) (K : PySem.W.Frag) (mg : Str → Option Value) (base : Heap) (c : Nat) (x f y : Str) : Prop where
  lt : c < W.nx
  gl : mg x = some (.ref (W.xa c))
  no : PySem.W.findIn K (.ref (W.xa c)) f = some none
  ex : ∃ (ini : String) (fI : Addr) (fd : FuncData), OexG K ini (W.xa c) ∧ PySem.W.findIn K (.ref (W.xa c)) "__init__" = some (some (.ref fI)) ∧ PySem.W.typeIn K (.ref fI) = some (.type "function") ∧ FnG P w K mg base 1 fI fd ["self", y] (spX K ini f) ∧ Binds K fd ["self", y] [] ∧
    ∀ (s : Shared) (u : Value) (a : Addr), K.In s.heap → BindsTo s fd ⟨[.ref a], [(y, u)]⟩ ((["self", y] : List Str).zip [.ref a, u])
/-- one without an __init__ of the text's -/
structure XnOk (W : Wd) (K : PySem.W.Frag) (mg : Str → Option Value) (c : Nat) (x : Str) : Prop where
  lt : c < W.nx
  gl : mg x = some (.ref (W.xa c))
  q : PySem.W.excIn K (W.xa c) PySem.HandSPX.veTail "ValueError.__new__" = true
  kC : PySem.W.keepIn K (.ref (W.xa c)) = true
/-- what holds where an expression of Γ, N, sc stands -/
structure CxS (W : Wd) (Γ : Gam) (N : List Str) (C : Cal) (sc : Scope) (X : Cx) : Prop where
  hN : X.N = N
  nd : N.Nodup
  hsc : X.env.scope = sc
  calm : X.calm = true
  hK : X.K = W.K
  hw : X.w = W.w
  hgd : X.A.guards = some []
  hu : X.A.units + 200 < cLine
  con : ∀ x g, Γ.con.lookup x = some g → ∃ d v u, C.P.glos[g]? = some d ∧ X.mg x = some u ∧ RelV v u ∧ ∀ ι H, DV W ι H d v
  fns : ∀ x F, Γ.fns.lookup x = some F → ∃ (f : Addr) (fd : FuncData) (k : Nat), X.mg x = some (.ref f) ∧ PySem.W.keepIn X.K (.ref f) = true ∧ Room k X.A ∧ FnG X.prog X.w X.K X.mg X.base k f fd F.ps (spF W C F.id) ∧ (F.kwo = false → Binds X.K fd F.ps []) ∧
    ∀ many ns ix, (F.id, many, ns) ∈ Γ.kws → oMap (argIx F many ns) F.ps.zipIdx = some ix → KB X.K fd F.ps many ns ix ((F.dfl.map (·.2)).map litV)
  free : ∀ x ∈ bltNs, freeB Γ x = true → X.mg x = none
  lam : ∃ k, Room k X.A ∧ ∀ l, LmG X.prog X.w W C X.mg X.base k l
  cP : ∀ c K, C.P.cls[c]? = some K → c < W.nc
  cls : ∀ x c, Γ.cls.lookup x = some c → (∃ (id : Nat) (ms : List (Str × Nat)) (f : Addr) (fd : FuncData) (ps : List Str) (k : Nat), C.P.cls[c]? = some ⟨some id, ms⟩ ∧ X.mg x = some (.ref (W.ca c)) ∧ Mk X.K (W.ca c) f ∧ FnG X.prog X.w X.K X.mg X.base k f fd ps (spI W C id) ∧ Room (k + 1) X.A ∧ Binds X.K fd ps []) ∨ (∀ f as S, C.ini f as S = none)
  att : ∀ f ∈ Γ.att, AttOk W X.K f
  mth : MthOk W C X
  hr2 : Room 2 X.A
  xns : ∀ x c y, Γ.xcs.lookup x = some (c, ("" : Str), y) → XnOk W X.K X.mg c x
  xcs : ∀ x c f y, Γ.xcs.lookup x = some (c, f, y) → f ≠ "" → XcOk W X.prog X.w X.K X.mg X.base c x f y
  xis : ∀ y cs, Γ.xis.lookup y = some cs → XiOk W X.K X.mg y cs
  xat : ∀ f ∈ Γ.att, XaOk W X.K f
section
variable {W : Wd} {Γ : Gam} {N : List Str} {C : Cal} {sc : Scope} {X : Cx}
theorem CxS.gl (cx : CxS W Γ N C sc X) {x : Str} (h : gloB sc x = true) : Gl X x := by
  unfold gloB at h
  split at h
  · rename_i e
    show X.env.scope.names.lookup x = _
    rw [cx.hsc]
    exact e
  · cases h
theorem CxS.vis (cx : CxS W Γ N C sc X) {x : Str} (h : visB sc x = true) : Vis X.env.scope x := by
  unfold visB at h
  rw [cx.hsc]
  split at h
  · exact .inl (by assumption)
  · exact .inr (.inl (by assumption))
  · exact .inr (.inr (by assumption))
  · cases h
theorem loc_of {x : Str} (h : locB sc x = true) : Loc sc x := by
  unfold locB at h
  split at h
  · exact .inl (by assumption)
  · exact .inr (by assumption)
  · cases h
theorem CxS.blk (cx : CxS W Γ N C sc X) (s : Shared) (H : Hp) (scope : Scope) (A : Addr) (cl : List (Str × Addr)) (fp : List Addr) : CxS W Γ N C (relS scope sc) (X.blk s H scope (compEnvC scope cl A X.env) fp) where
  hN := cx.hN
  nd := cx.nd
  hsc := by
    rw [← cx.hsc]
    rfl
  calm := cx.calm
  hK := cx.hK
  hw := cx.hw
  hgd := cx.hgd
  hu := cx.hu
  con := cx.con
  fns := cx.fns
  free := cx.free
  lam := cx.lam
  cP := cx.cP
  cls := cx.cls
  att := cx.att
  mth := cx.mth
  hr2 := cx.hr2
  xcs := cx.xcs
  xns := cx.xns
  xis := cx.xis
  xat := cx.xat
theorem CxS.u64 (cx : CxS W Γ N C sc X) : X.A.units + 64 < cLine := by
  have := cx.hu
  omega

def Snd (W : Wd) (C : Cal) (X : Cx) (e : Expr) (c : CE) : Prop := PE X e (rdE W C c) ∧ PT X e (rdT W C c) ∧ ∀ op vs p, e = .BoolOp op vs p → PW X e (rdT W C c)
theorem snd_of {e : Expr} {c : CE} (hK : X.K = W.K) (h : PE X e (rdE W C c)) (hb : ∀ op vs p, e ≠ .BoolOp op vs p) (he : ∀ whole, PySem.isTrue e X.env whole = (do let v ← whole; standAt e.pos; holding [v] (truthy v))) : Snd W C X e c :=
  ⟨h, ok_truth hK h he, fun op vs p e => absurd e (hb op vs p)⟩
/-- r is right wherever this holds -/
def RcOk (W : Wd) (Γ : Gam) (N : List Str) (C : Cal) (r : Scope → Expr → Option CE) : Prop := ∀ sc X e c, CxS W Γ N C sc X → r sc e = some c → Snd W C X e c
variable {r : Scope → Expr → Option CE} {c : CE} {pos : Pos}
theorem cEs_ok (hr : RcOk W Γ N C r) (cx : CxS W Γ N C sc X) : ∀ {es : List Expr} {cs : CEs}, cEs (r sc) es = some cs → PA X es (rdA W C cs) ∧ es.all notStar = true ∧ (es = [] → cs = .nil) ∧ cs.len = es.length
  | [], _, h => by cases h; exact ⟨ok_nil, rfl, fun _ => rfl, rfl⟩
  | e :: es, _, h => by
    unfold cEs at h
    split at h
    · rename_i hs
      split at h
      · rename_i a b ha hb
        cases h
        obtain ⟨h1, h2, _, h4⟩ := cEs_ok hr cx hb
        exact ⟨ok_cons (hr _ _ _ _ cx ha).1 h1 hs, by rw [List.all_cons, hs, h2]; rfl, fun z => by (cases z), by rw [List.length_cons, ← h4]; rfl⟩
      · cases h
    · cases h
theorem cO_ok (hr : RcOk W Γ N C r) (cx : CxS W Γ N C sc X) {o : Option Expr} {co : CO} (h : cO (r sc) o = some co) : PO X o (rdO W C co) := by
  cases o with
  | none => cases h; exact ok_no
  | some e =>
    obtain ⟨c, h1, rfl⟩ := Option.map_eq_some_iff.mp (show (r sc e).map CO.so = some co from h)
    exact ok_so (hr _ _ _ _ cx h1).1
theorem cCst_ok (cx : CxS W Γ N C sc X) {v : Const} {k : Nat} (h : cCst v = some c) : Snd W C X (.Constant v k pos) c := by
  unfold cCst at h
  split at h
  · cases h; exact snd_of cx.hK ok_non (fun _ _ _ z => by cases z) fun _ => rfl
  · cases h; exact snd_of cx.hK ok_bl (fun _ _ _ z => by cases z) fun _ => rfl
  · cases h; exact snd_of cx.hK ok_int (fun _ _ _ z => by cases z) fun _ => rfl
  · cases h; exact snd_of cx.hK ok_str (fun _ _ _ z => by cases z) fun _ => rfl
  · cases h
theorem cNm_ok (cx : CxS W Γ N C sc X) {x : Str} (h : cNm Γ N sc x = some c) : Snd W C X (.Name x pos) c := by
  unfold cNm at h
  split at h
  · cases h
  · rename_i hd
    have h1 : x ≠ "__debug__" := fun z => hd (.inl z)
    have h2 : x ≠ "__classdict__" := fun z => hd (.inr z)
    refine snd_of cx.hK ?_ (fun _ _ _ z => by cases z) fun _ => rfl
    split at h
    · rename_i hv
      obtain ⟨i, hi, rfl⟩ := Option.map_eq_some_iff.mp h
      exact ok_var (by rw [cx.hN]; exact ixOf_at hi) (cx.vis hv) h1 h2
    · split at h
      · rename_i hg
        obtain ⟨g, hi, rfl⟩ := Option.map_eq_some_iff.mp h
        obtain ⟨d, v, u, q1, q2, q3, q4⟩ := cx.con x g hi
        exact ok_glo (cx.gl hg) q2 q3 h1 q1 q4
      · cases h
theorem cUn_ok (hr : RcOk W Γ N C r) (cx : CxS W Γ N C sc X) {op : UnaryOp} {a : Expr} (h : cUn (r sc) op a = some c) : Snd W C X (.UnaryOp op a pos) c := by
  unfold cUn at h
  split at h
  · obtain ⟨ca, h1, rfl⟩ := Option.map_eq_some_iff.mp h
    exact snd_of cx.hK (ok_neg (hr _ _ _ _ cx h1).1) (fun _ _ _ z => by cases z) fun _ => rfl
  · obtain ⟨ca, h1, rfl⟩ := Option.map_eq_some_iff.mp h
    have q := hr _ _ _ _ cx h1
    exact ⟨ok_not cx.hK q.1, ok_notT q.2.1, fun _ _ _ z => by cases z⟩
  · cases h
theorem cBool_ok (hr : RcOk W Γ N C r) (cx : CxS W Γ N C sc X) {op : BoolOp} {vs : List Expr} (h : cBool (r sc) op vs pos = some c) : Snd W C X (.BoolOp op vs pos) c := by
  unfold cBool at h
  split at h
  · cases h
  · rename_i a
    have q := hr _ _ _ _ cx h
    have w : PW X (.BoolOp op [a] pos) (rdT W C c) := by
      cases op
      · exact pw_and1 q.2.1
      · exact pw_or1 q.2.1
    exact ⟨pe_one q.1, w.pt, fun _ _ _ z => w⟩
  · rename_i a b rest
    split at h
    · rename_i x y hx hy
      have qa := hr _ _ _ _ cx hx
      have qb := hr _ _ _ _ cx hy
      have wb := qb.2.2 _ _ _ rfl
      cases op with
      | And =>
        cases h
        have w := ok_andW qa.2.1 wb
        exact ⟨ok_and cx.hK qa.1 qb.1, w.pt, fun _ _ _ z => w⟩
      | Or =>
        cases h
        have w := ok_orW qa.2.1 wb
        exact ⟨ok_or cx.hK qa.1 qb.1, w.pt, fun _ _ _ z => w⟩
    · cases h
theorem marks_of {op : CmpOp} {b : Expr} (h : (!isLc b || noIn op) = true) : behindInMarks op b = false := by
  cases b <;> first
    | rfl
    | skip
  rename_i es k p
  have h2 : noIn op = true := by simpa [isLc] using h
  cases op <;> first
    | cases h2
    | skip
  all_goals exact nobehind _ (by decide) (by decide)
theorem cCmp_ok (hr : RcOk W Γ N C r) (cx : CxS W Γ N C sc X) {a : Expr} {ops : List CmpOp} {es : List Expr} (h : cCmp (r sc) a ops es = some c) : Snd W C X (.Compare a ops es pos) c := by
  unfold cCmp at h
  split at h
  · split at h
    · rename_i x y hx hy
      split at h
      · rename_i hm
        cases h
        have qa := hr _ _ _ _ cx hx
        have qb := hr _ _ _ _ cx hy
        exact ⟨ok_cmp cx.hK cx.hw cx.u64 qa.1 qb.1 (marks_of hm), ok_cmpT cx.hK cx.hw cx.u64 qa.1 qb.1 (marks_of hm), fun _ _ _ z => by cases z⟩
      · cases h
    · cases h
  · split at h
    · rename_i x y z hx hy hz
      split at h
      · rename_i hm
        cases h
        have qa := hr _ _ _ _ cx hx
        have qb := hr _ _ _ _ cx hy
        have qc := hr _ _ _ _ cx hz
        exact ⟨ok_chain cx.hK cx.hw cx.u64 qa.1 qb.1 qc.1 (marks_of hm), ok_chainT cx.hK cx.hw cx.u64 qa.1 qb.1 qc.1 (marks_of hm), fun _ _ _ z => by cases z⟩
      · cases h
    · cases h
  · cases h
theorem pps_ok (hr : RcOk W Γ N C r) (cx : CxS W Γ N C sc X) : ∀ {ks : List (Option Expr)} {vs : List Expr} {ys : List Ky} {cs : CEs}, Paired (fun k (y : Ky) => ∃ ex, k = some ex ∧ ∀ X : Cx, PE X ex (tC (kV y))) ks ys → cEs (r sc) vs = some cs → ks.length = vs.length → PPs X pos ks vs (trsOf W C ys cs)
  | [], [], _, _, .nil, h, _ => by cases h; exact pps_nil
  | [], _ :: _, _, _, _, _, hl => by cases hl
  | k :: ks, [], _, _, _, _, hl => by cases hl
  | k :: ks, v :: vs, _, _, .cons ⟨ex, e, hk⟩ t, h, hl => by
    unfold cEs at h
    split at h
    · split at h
      · rename_i a b ha hb
        cases h
        subst e
        exact pps_cons (hk X) (hr _ _ _ _ cx ha).1 (pps_ok hr cx t hb (by simpa using hl))
      · cases h
    · cases h
theorem cDic_ok (hr : RcOk W Γ N C r) (cx : CxS W Γ N C sc X) {ks : List (Option Expr)} {vs : List Expr} (h : cDic (r sc) ks vs = some c) : Snd W C X (.Dict ks vs pos) c := by
  unfold cDic at h
  split at h
  · rename_i ks' vs' hk hv
    split at h
    · rename_i hl
      cases h
      obtain ⟨ys, rfl, h2, h3⟩ := keys_of hk
      exact snd_of cx.hK (ok_dic h3 h2 hl.1 hl.2 fun trs ht => ht ▸ pps_ok hr cx h3 hv hl.1) (fun _ _ _ z => by cases z) fun _ => rfl
    · cases h
  · cases h
theorem isM1_of {e : Expr} (h : isM1 e = true) : ∃ k p1 p2, e = .UnaryOp .USub (.Constant (.int 1) k p1) p2 := by
  unfold isM1 at h
  split at h
  · rw [of_decide_eq_true h]
    exact ⟨_, _, _, rfl⟩
  · cases h
theorem cSub_ok (hr : RcOk W Γ N C r) (cx : CxS W Γ N C sc X) {a i : Expr} (h : cSub (r sc) a i = some c) : Snd W C X (.Subscript a i pos) c := by
  refine snd_of cx.hK ?_ (fun _ _ _ z => by cases z) fun _ => rfl
  unfold cSub at h
  split at h
  · rename_i lo hi st p2
    split at h
    · split at h
      · rename_i x l u hx hl hh
        cases h
        exact ok_slc cx.hK (hr _ _ _ _ cx hx).1 (cO_ok hr cx hl) (cO_ok hr cx hh)
      · cases h
    · split at h
      · rename_i e hm
        obtain ⟨ca, h1, rfl⟩ := Option.map_eq_some_iff.mp h
        simp only [Bool.and_eq_true, Option.isNone_iff_eq_none] at hm
        obtain ⟨⟨hm, rfl⟩, rfl⟩ := hm
        obtain ⟨k, p1, p2, rfl⟩ := isM1_of hm
        exact ok_rev cx.hK (hr _ _ _ _ cx h1).1
      · cases h
  · rename_i hns
    split at h
    · rename_i x y hx hy
      cases h
      refine ok_ix cx.hK cx.hw cx.u64 (hr _ _ _ _ cx hx).1 (hr _ _ _ _ cx hy).1 fun o i' => ?_
      cases i <;> first
        | rfl
        | exact absurd rfl (hns _ _ _ _)
    · cases h
theorem oMap_len {α β : Type} {f : α → Option β} : ∀ {xs : List α} {ys : List β}, oMap f xs = some ys → ys.length = xs.length
  | [], _, h => by cases h; rfl
  | x :: xs, _, h => by
    simp only [oMap] at h
    split at h
    · rename_i y ys hy hys
      cases h
      rw [List.length_cons, List.length_cons, oMap_len hys]
    · cases h
theorem cCall_ok (hr : RcOk W Γ N C r) (cx : CxS W Γ N C sc X) {x : Str} {F : FnI} {as : List Expr} {ks : List Keyword} {p : Pos} (hF : Γ.fns.lookup x = some F) (hg : gloB sc x = true) (hd : x ≠ "__debug__") (h : cCall Γ (r sc) F as ks = some c) : PE X (.Call (.Name x p) as ks pos) (rdE W C c) := by
  obtain ⟨f, fd, k, h1, h2, h3, h4, h5, h6⟩ := cx.fns x F hF
  unfold cCall at h
  split at h
  · rename_i as' ks' ns ha hk hn
    obtain ⟨q1, q2, q3, q4⟩ := cEs_ok hr cx ha
    split at h
    · rename_i hl
      cases h
      simp only [Bool.and_eq_true, List.isEmpty_iff, Bool.not_eq_true'] at hl
      rw [hl.1.1]
      exact ok_call h4 h3 cx.hgd (cx.gl hg) h1 h2 (h5 hl.2) q1 q2 q3 hd
    · split at h
      · rename_i ix hix
        split at h
        · rename_i hw
          cases h
          simp only [Bool.and_eq_true, decide_eq_true_eq, Bool.not_eq_true', List.isEmpty_eq_false_iff] at hw
          have e0 : (F.dfl.map fun d => litD d.2) = (F.dfl.map (·.2)).map litD := by rw [List.map_map]; rfl
          rw [e0]
          have q5 := cEs_ok hr cx hk
          have hnl : ns.length = ks.length := oMap_len hn
          exact ok_callK h4 h3 cx.hgd (cx.gl hg) h1 h2 (h6 _ _ _ hw.1 hix) q1 q2 q3 q4 (ok_pk (fun a ca ha => (hr _ _ _ _ cx ha).1) hk) (by rw [q5.2.2.2, List.length_map, hnl]) hn hw.2 hd
        · cases h
      · cases h
  · cases h
theorem last_of : ∀ {as bs : List Expr} {e : Expr}, lastOf as = some (bs, e) → as = bs ++ [e]
  | [], _, _, h => by cases h
  | [a], _, _, h => by cases h; rfl
  | a :: b :: r, _, _, h => by
    obtain ⟨q, h1, h2⟩ := Option.map_eq_some_iff.mp (show (lastOf (b :: r)).map _ = some _ from h)
    cases h2
    have z := last_of (bs := q.1) (e := q.2) h1
    rw [z]
    rfl
theorem pas_of (hr : RcOk W Γ N C r) (cx : CxS W Γ N C sc X) : ∀ {es : List Expr} {cs : CEs}, cEs (r sc) es = some cs → PAs W C X es cs
  | [], _, h => by cases h; exact .nil
  | e :: es, _, h => by
    unfold cEs at h
    split at h
    · rename_i hs
      split at h
      · rename_i a b ha hb
        cases h
        exact .cons (hr _ _ _ _ cx ha).1 hs (pas_of hr cx hb)
      · cases h
    · cases h
theorem cCallV_ok (hr : RcOk W Γ N C r) (cx : CxS W Γ N C sc X) {x : Str} {F : FnI} {as : List Expr} {p : Pos} (hF : Γ.fns.lookup x = some F) (hg : gloB sc x = true) (hd : x ≠ "__debug__") (h : cCallV N sc (r sc) F as = some c) : PE X (.Call (.Name x p) as [] pos) (rdE W C c) := by
  obtain ⟨f, fd, k, h1, h2, h3, h4, h5, h6⟩ := cx.fns x F hF
  unfold cCallV at h
  split at h
  · rename_i bs y py hl
    split at h
    · cases h
    · rename_i hdd
      split at h
      · rename_i hv
        rw [Bool.and_eq_true, Bool.and_eq_true, Bool.not_eq_true'] at hv
        split at h
        · rename_i cs j hc hj
          cases h
          rw [last_of hl]
          exact ok_callV h4 h3 cx.hgd (cx.gl hg) h1 h2 (h5 hv.2) hd (pa_lam (by rw [cx.hN]; exact ixOf_at hj) (cx.vis hv.1.1) (fun z => hdd (.inl z)) (fun z => hdd (.inr z)) (pas_of hr cx hc)) (cEs_ok hr cx hc).2.1
        · cases h
      · cases h
  · cases h
theorem free_val (cx : CxS W Γ N C sc X) {y : Str} (h : (gloB sc y && freeB Γ y) = true) (hb : y ∈ bltNs := by decide) : Gl X y ∧ X.mg y = none := by
  rw [Bool.and_eq_true] at h
  exact ⟨cx.gl h.1, cx.free _ hb h.2⟩
theorem bi_blt {x : Str} {b : Bi} (h : biOf.lookup x = some b) : x ∈ bltNs := List.mem_append_left _ (List.mem_append_left _ (List.mem_map.mpr ⟨(_, _), mem_of_lookup h, rfl⟩))
theorem ty_blt {x : Str} {b : Ty} (h : tyNm.lookup x = some b) : x ∈ bltNs := List.mem_append_left _ (List.mem_append_right _ (List.mem_map.mpr ⟨(_, _), mem_of_lookup h, rfl⟩))
theorem cIsi_ok (hr : RcOk W Γ N C r) (cx : CxS W Γ N C sc X) {as : List Expr} {p : Pos} (hg : Gl X "isinstance") (hm : X.mg "isinstance" = none) (h : cIsi Γ sc (r sc) as = some c) : PE X (.Call (.Name "isinstance" p) as [] pos) (rdE W C c) := by
  unfold cIsi at h
  split at h
  · rename_i x y p2
    split at h
    · rename_i cs hcs
      split at hcs
      · rename_i hf
        rw [Bool.and_eq_true, decide_eq_true_eq] at hf
        split at h
        · rename_i hs
          obtain ⟨cx', h1, rfl⟩ := Option.map_eq_some_iff.mp h
          exact ok_isx cx.hK hg hm (cx.gl hf.1) (cx.xis _ _ hcs) (beq_eq_false_iff_ne.mpr hf.2) (hr _ _ _ _ cx h1).1 hs
        · cases h
      · cases hcs
    · split at h
      · rename_i x' t hx ht
        split at h
        · rename_i hs
          cases h
          split at ht
          · rename_i hf
            obtain ⟨g1, g2⟩ := free_val cx hf (ty_blt ht)
            exact ok_isi cx.hK hg hm g1 g2 ht (hr _ _ _ _ cx hx).1 hs
          · cases ht
        · cases h
      · cases h
  · cases h
theorem cMkx_ok (hr : RcOk W Γ N C r) (cx : CxS W Γ N C sc X) {x : Str} {q : Nat × Str × Str} {as : List Expr} {ks : List Keyword} {p : Pos} (hq : Γ.xcs.lookup x = some q) (hg : Gl X x) (hd : x ≠ "__debug__") (h : cMkx (r sc) q as ks = some c) : PE X (.Call (.Name x p) as ks pos) (rdE W C c) := by
  obtain ⟨cc, f, y⟩ := q
  unfold cMkx at h
  split at h
  · split at h
    · rename_i hs
      obtain ⟨ca, h1, h⟩ := Option.map_eq_some_iff.mp h
      simp only at h
      split at h
      · rename_i hf
        subst h
        subst hf
        have O := cx.xns _ _ _ hq
        exact ok_mkn O.lt F.excBase_ValueError O.q O.kC hg O.gl (hr _ _ _ _ cx h1).1 hs (beq_eq_false_iff_ne.mpr hd)
      · rename_i hf
        subst h
        have O := cx.xcs _ _ _ _ hq hf
        obtain ⟨ini, fI, fd, oT, o1, o2, o3, o4, o5⟩ := O.ex
        exact ok_mkx O.lt oT O.no o1 o2 o3 cx.hr2 cx.hgd hg O.gl o4 (hr _ _ _ _ cx h1).1 hs (beq_eq_false_iff_ne.mpr hd)
    · cases h
  · split at h
    · rename_i hk
      obtain ⟨ca, h1, rfl⟩ := Option.map_eq_some_iff.mp h
      obtain ⟨hk, hf⟩ := hk
      subst hk
      have O := cx.xcs _ _ _ _ hq hf
      obtain ⟨ini, fI, fd, oT, o1, o2, o3, o4, o5⟩ := O.ex
      exact ok_mkxk O.lt oT O.no o1 o2 o3 cx.hr2 cx.hgd hg O.gl o5 (hr _ _ _ _ cx h1).1 (beq_eq_false_iff_ne.mpr hd)
    · cases h
  · cases h
theorem one_cEs {f : Expr → Option CE} {a : Expr} {cs : CEs} (h : cEs f [a] = some cs) : ∃ ca, f a = some ca ∧ cs = .cons ca .nil ∧ notStar a = true := by
  unfold cEs at h
  split at h
  · rename_i hs
    split at h
    · rename_i x y hx hy
      cases h
      cases hy
      exact ⟨_, hx, rfl, hs⟩
    · cases h
  · cases h
theorem two_cEs {f : Expr → Option CE} {a b : Expr} {cs : CEs} (h : cEs f [a, b] = some cs) : ∃ ca cb, f a = some ca ∧ f b = some cb ∧ cs = .cons ca (.cons cb .nil) ∧ notStar a = true ∧ notStar b = true := by
  unfold cEs at h
  split at h
  · rename_i hs
    split at h
    · rename_i x y hx hy
      cases h
      obtain ⟨cb, h1, rfl, h2⟩ := one_cEs hy
      exact ⟨_, _, hx, h1, rfl, hs, h2⟩
    · cases h
  · cases h
/-- what srcOf says of an iterable -/
inductive SrcI (Γ : Gam) (sc : Scope) : Expr → Src → List Expr → Prop where
  | val (e : Expr) : SrcI Γ sc e .val [e]
  | r1 (p q : Pos) (a : Expr) (h : (gloB sc "range" && freeB Γ "range") = true) : SrcI Γ sc (.Call (.Name "range" p) [a] [] q) .range [a]
  | r2 (p q : Pos) (a b : Expr) (h : (gloB sc "range" && freeB Γ "range") = true) : SrcI Γ sc (.Call (.Name "range" p) [a, b] [] q) .range [a, b]
  | en (p q : Pos) (a : Expr) (h : (gloB sc "enumerate" && freeB Γ "enumerate") = true) : SrcI Γ sc (.Call (.Name "enumerate" p) [a] [] q) .enum [a]
  | zp (p q : Pos) (a b : Expr) (h : (gloB sc "zip" && freeB Γ "zip") = true) : SrcI Γ sc (.Call (.Name "zip" p) [a, b] [] q) .zip [a, b]
theorem one_len {es : List Expr} (h : es.length = 1) : ∃ a, es = [a] := by
  rcases es with _ | ⟨a, _ | ⟨b, r⟩⟩
  · cases h
  · exact ⟨a, rfl⟩
  · simp at h
theorem two_len {es : List Expr} (h : es.length = 2) : ∃ a b, es = [a, b] := by
  rcases es with _ | ⟨a, _ | ⟨b, _ | ⟨c, r⟩⟩⟩
  · cases h
  · simp at h
  · exact ⟨a, b, rfl⟩
  · simp at h
theorem src_of (e : Expr) : SrcI Γ sc e (srcOf Γ sc e).1 (srcOf Γ sc e).2 := by
  unfold srcOf
  split
  · rename_i f p as q
    split
    · rename_i h
      simp only [Bool.and_eq_true, Bool.or_eq_true, decide_eq_true_eq, beq_iff_eq] at h
      obtain ⟨⟨⟨h1, h2⟩, rfl⟩, h4⟩ := h
      rcases h4 with h4 | h4
      · obtain ⟨a, rfl⟩ := one_len h4
        exact .r1 _ _ _ (by rw [h1, h2]; rfl)
      · obtain ⟨a, b, rfl⟩ := two_len h4
        exact .r2 _ _ _ _ (by rw [h1, h2]; rfl)
    · split
      · rename_i h
        simp only [Bool.and_eq_true, Bool.or_eq_true, decide_eq_true_eq, beq_iff_eq] at h
        obtain ⟨⟨⟨h1, h2⟩, rfl⟩, h4⟩ := h
        obtain ⟨a, rfl⟩ := one_len h4
        exact .en _ _ _ (by rw [h1, h2]; rfl)
      · split
        · rename_i h
          simp only [Bool.and_eq_true, Bool.or_eq_true, decide_eq_true_eq, beq_iff_eq] at h
          obtain ⟨⟨⟨h1, h2⟩, rfl⟩, h4⟩ := h
          obtain ⟨a, b, rfl⟩ := two_len h4
          exact .zp _ _ _ _ (by rw [h1, h2]; rfl)
        · exact .val _
  · exact .val _
theorem cCol_ok (hr : RcOk W Γ N C r) (cx : CxS W Γ N C sc X) {as : List Expr} {p : Pos} (hg : Gl X "list") (hm : X.mg "list" = none) (h : cCol Γ sc (r sc) as = some c) : PE X (.Call (.Name "list" p) as [] pos) (rdE W C c) := by
  unfold cCol at h
  split at h
  · rename_i a
    split at h
    · rename_i hs
      split at h
      · rename_i es he
        have q := src_of (Γ := Γ) (sc := sc) a
        generalize (srcOf Γ sc a).1 = s1 at *
        generalize (srcOf Γ sc a).2 = s2 at *
        cases q with
        | val =>
          cases h
          obtain ⟨ca, h1, rfl, h2⟩ := one_cEs he
          exact ok_colV cx.calm cx.hK hg hm (hr _ _ _ _ cx h1).1 h2
        | r1 p q a hf =>
          cases h
          obtain ⟨ca, h1, rfl, h2⟩ := one_cEs he
          obtain ⟨g1, g2⟩ := free_val cx hf
          exact ok_colR1 cx.calm hg hm g1 g2 (hr _ _ _ _ cx h1).1 h2
        | r2 p q a b hf =>
          cases h
          obtain ⟨ca, cb, h1, h2, rfl, h3, h4⟩ := two_cEs he
          obtain ⟨g1, g2⟩ := free_val cx hf
          exact ok_colR2 cx.calm hg hm g1 g2 (hr _ _ _ _ cx h1).1 (hr _ _ _ _ cx h2).1 h3 h4
        | en p q a hf => cases h
        | zp p q a b hf => cases h
      · cases h
    · cases h
  · cases h
theorem cMk_ok (hr : RcOk W Γ N C r) (cx : CxS W Γ N C sc X) {x : Str} {cc : Nat} {as : List Expr} {as' : CEs} {p : Pos} (hc : Γ.cls.lookup x = some cc) (hg : Gl X x) (hd : x ≠ "__debug__") (ha : cEs (r sc) as = some as') : PE X (.Call (.Name x p) as [] pos) (rdE W C (.make cc as')) := by
  obtain ⟨q1, q2, q3, q4⟩ := cEs_ok hr cx ha
  rcases cx.cls x cc hc with ⟨id, ms, f, fd, ps, k, h1, h2, h3, h4, h5, h6⟩ | h0
  · exact ok_make (cx.cP _ _ h1) h1 h3 h4 h5 cx.hgd hg h2 h6 q1 q2 q3 hd
  · refine PE.no fun σ H Q ⟨ι, S, e, d, S', R, V, ev, g⟩ => ?_
    simp only [evE] at ev
    obtain ⟨xs, S1, e1, ev⟩ := bnd_some ev
    split at ev
    · rw [h0] at ev
      cases ev
    · cases ev
theorem cImt_ok (hr : RcOk W Γ N C r) (cx : CxS W Γ N C sc X) {o : Expr} {m : Str} {ap : Pos} {as : List Expr} {ks : List Keyword} (h : cImt (r sc) o m ap pos as ks = some c) : PE X (.Call (.Attribute o m ap) as ks pos) (rdE W C c) := by
  unfold cImt at h
  split at h
  · cases h
  · rename_i hn
    simp only [Bool.or_eq_true, Bool.not_eq_true', not_or, Bool.not_eq_true, Bool.not_eq_false, List.isEmpty_iff, decide_eq_true_eq, Nat.not_le] at hn
    obtain ⟨⟨⟨h1, h2⟩, rfl⟩, h3⟩ := hn
    split at h
    · rename_i co cs h4 h5
      cases h
      obtain ⟨q1, q2, q3, q4⟩ := cEs_ok hr cx h5
      exact ok_imth cx.mth cx.hgd (hr _ _ _ _ cx h4).1 q1 q2 h3 q3 h1 h2 cx.cP
    · cases h
theorem itm_of {as : List Expr} {q : Expr × Pos × Pos} (h : itmOf as = some q) : as = [.Call (.Attribute q.1 "items" q.2.1) [] [] q.2.2] := by
  unfold itmOf at h
  split at h
  · split at h
    · rename_i e
      cases h
      rw [e]
    · cases h
  · cases h
theorem set_of {as : List Expr} {a : Expr} (h : setOf Γ sc as = some a) : ∃ p2 q2, as = [.Call (.Name "set" p2) [a] [] q2] ∧ (gloB sc "set" && freeB Γ "set") = true ∧ notStar a = true := by
  unfold setOf at h
  split at h
  · split at h
    · rename_i hw
      cases h
      rw [Bool.and_eq_true, Bool.and_eq_true, decide_eq_true_eq] at hw
      obtain ⟨⟨rfl, h1⟩, h2⟩ := hw
      exact ⟨_, _, rfl, h1, h2⟩
    · cases h
  · cases h
theorem zip_of {as : List Expr} {q : Expr × Expr × Bool} (h : zipOf Γ sc as = some q) : ∃ p2 q2 ks, as = [.Call (.Name "zip" p2) [q.1, q.2.1] ks q2] ∧ (gloB sc "zip" && freeB Γ "zip") = true ∧ notStar q.1 = true ∧ notStar q.2.1 = true ∧ kwz ks = some q.2.2 := by
  unfold zipOf at h
  split at h
  · split at h
    · rename_i hw
      obtain ⟨t, ht, rfl⟩ := Option.map_eq_some_iff.mp h
      rw [Bool.and_eq_true, Bool.and_eq_true] at hw
      obtain ⟨⟨h1, h2⟩, h3⟩ := hw
      have h1 := of_decide_eq_true h1
      rw [Bool.and_eq_true] at h3
      subst h1
      exact ⟨_, _, _, rfl, h2, h3.1, h3.2, ht⟩
    · cases h
  · cases h
theorem cItm_of {mk : CE → CE} {q : Expr × Pos × Pos} (h : cItm (r sc) mk q = some c) : True ∧ isCall q.1 = false ∧ (q.2.1.endLine == q.2.2.line) = true ∧ ∃ co, r sc q.1 = some co ∧ mk co = c := by
  unfold cItm at h
  split at h
  · cases h
  · rename_i hn
    simp only [Bool.or_eq_true, Bool.not_eq_true', not_or, Bool.not_eq_true, Bool.not_eq_false] at hn
    obtain ⟨co, h1, h2⟩ := Option.map_eq_some_iff.mp h
    exact ⟨trivial, hn.1, hn.2, co, h1, h2⟩
theorem cBi_ok (hr : RcOk W Γ N C r) (cx : CxS W Γ N C sc X) {x : Str} {as : List Expr} {p : Pos} (hg : gloB sc x = true) (hf : freeB Γ x = true) (hd : x ≠ "__debug__") (h : cBi (r sc) x as = some c) : PE X (.Call (.Name x p) as [] pos) (rdE W C c) := by
  unfold cBi at h
  split at h
  · rename_i b as' hb ha
    obtain ⟨q1, q2, q3, q4⟩ := cEs_ok hr cx ha
    split at h
    · cases h
    · rename_i hne
      cases h
      cases as with
      | nil => exact absurd rfl hne
      | cons a es => exact ok_bi cx.hgd cx.calm cx.hK cx.hu (cx.gl hg) (cx.free _ (bi_blt hb) hf) hb hd q1 q2
  · cases h
theorem cFn_ok (hr : RcOk W Γ N C r) (cx : CxS W Γ N C sc X) {x : Str} {as : List Expr} {ks : List Keyword} {p : Pos} (h : cFn Γ N sc (r sc) x as ks = some c) : PE X (.Call (.Name x p) as ks pos) (rdE W C c) := by
  unfold cFn at h
  split at h
  · cases h
  · rename_i hd
    split at h
    · rename_i hvis
      split at h
      · cases h
      · rename_i hn
        split at h
        · rename_i j cs hj hc
          cases h
          obtain ⟨k, hk1, hk2⟩ := cx.lam
          simp only [not_or, Bool.not_eq_true, Bool.not_eq_true', Bool.not_eq_false', Bool.not_eq_eq_eq_not, Bool.not_true, Bool.not_false, List.isEmpty_iff] at hn
          obtain ⟨n1, n2, n3⟩ := hn
          have n3 : ks = [] := by
            cases ks with
            | nil => rfl
            | cons _ _ => exact absurd rfl n3
          subst n3
          obtain ⟨q1, q2, _, _⟩ := cEs_ok hr cx hc
          cases as with
          | nil => exact absurd rfl n2
          | cons a es => exact ok_app cx.hK hk1 cx.hgd hk2 (by rw [cx.hN]; exact ixOf_at hj) (cx.vis hvis) hd n1 q1 q2
        · cases h
    · rename_i hnv
      split at h
      · rename_i hg
        split at h
        · rename_i F hF
          split at h
          · split at h
            · rename_i hks
              rw [List.isEmpty_iff.mp hks]
              exact cCallV_ok hr cx hF hg hd h
            · cases h
          · exact cCall_ok hr cx hF hg hd h
        · split at h
          · rename_i cc hcc
            split at h
            · rename_i hks
              rw [List.isEmpty_iff.mp hks]
              obtain ⟨as', ha, rfl⟩ := Option.map_eq_some_iff.mp h
              exact cMk_ok hr cx hcc (cx.gl hg) hd ha
            · cases h
          split at h
          · rename_i q hq
            exact cMkx_ok hr cx hq (cx.gl hg) hd h
          split at h
          · rename_i hf
            rw [Bool.and_eq_true, List.isEmpty_iff] at hf
            obtain ⟨hf, rfl⟩ := hf
            split at h
            · rename_i e
              subst e
              exact cIsi_ok hr cx (cx.gl hg) (cx.free _ (by decide) hf) h
            · split at h
              · rename_i e
                subst e
                split at h
                · rename_i q hq
                  obtain ⟨ho, hc, hl, co, h1, rfl⟩ := cItm_of h
                  rw [itm_of hq]
                  exact ok_ditm cx.calm (cx.gl hg) (cx.free _ (by decide) hf) (hr _ _ _ _ cx h1).1 hc hl
                · split at h
                  · rename_i q hq
                    obtain ⟨p2, q2, ks2, ea, hf2, hs1, hs2, hk⟩ := zip_of hq
                    obtain ⟨g1, g2⟩ := free_val cx hf2
                    split at h
                    · rename_i x y hx hy
                      cases h
                      rw [ea]
                      exact ok_lzip cx.calm cx.hK (cx.gl hg) (cx.free _ (by decide) hf) g1 g2 (hr _ _ _ _ cx hx).1 (hr _ _ _ _ cx hy).1 hs1 hs2 hk
                    · cases h
                  · exact cCol_ok hr cx (cx.gl hg) (cx.free _ (by decide) hf) h
              · split at h
                · rename_i e
                  subst e
                  split at h
                  · rename_i q hq
                    obtain ⟨ho, hc, hl, co, h1, rfl⟩ := cItm_of h
                    rw [itm_of hq]
                    exact ok_sitm cx.calm cx.hK (cx.gl hg) (cx.free _ (by decide) hf) (hr _ _ _ _ cx h1).1 hc hl
                  · split at h
                    · rename_i a ha
                      obtain ⟨p2, q2, ea, hf2, hs⟩ := set_of ha
                      obtain ⟨ca, h1, rfl⟩ := Option.map_eq_some_iff.mp h
                      obtain ⟨g1, g2⟩ := free_val cx hf2
                      rw [ea]
                      exact ok_sset cx.calm cx.hK (cx.gl hg) (cx.free _ (by decide) hf) g1 g2 (hr _ _ _ _ cx h1).1 hs
                    · exact cBi_ok hr cx hg hf hd h
                · exact cBi_ok hr cx hg hf hd h
          · cases h
      · cases h
theorem cMet_ok (hr : RcOk W Γ N C r) (cx : CxS W Γ N C sc X) {o : Expr} {m : Str} {ap : Pos} {as : List Expr} {ks : List Keyword} (h : cMet (r sc) o m ap pos as ks = some c) : PE X (.Call (.Attribute o m ap) as ks pos) (rdE W C c) := by
  unfold cMet at h
  split at h
  · cases h
  · rename_i hn
    simp only [Bool.or_eq_true, Bool.not_eq_true', not_or, Bool.not_eq_true, Bool.not_eq_false, List.isEmpty_iff] at hn
    obtain ⟨⟨h1, h2⟩, rfl⟩ := hn
    split at h
    · obtain ⟨co, h3, rfl⟩ := Option.map_eq_some_iff.mp h
      exact ok_met0 cx.hK (hr _ _ _ _ cx h3).1 h1 h2
    · split at h
      · rename_i hs
        split at h
        · rename_i co ca h3 h4
          split at h
          · rename_i e
            cases h
            rw [e]
            exact ok_dupd (hr _ _ _ _ cx h3).1 (hr _ _ _ _ cx h4).1 hs h1 h2
          · cases h
            exact ok_met1 cx.hK cx.u64 (hr _ _ _ _ cx h3).1 (hr _ _ _ _ cx h4).1 hs h1 h2
        · cases h
      · cases h
    · split at h
      · rename_i hs
        rw [Bool.and_eq_true] at hs
        split at h
        · rename_i co ca cb h3 h4 h5
          split at h
          · rename_i e
            cases h
            rw [e]
            exact ok_dget (by have := cx.hu; omega) (hr _ _ _ _ cx h3).1 (hr _ _ _ _ cx h4).1 (hr _ _ _ _ cx h5).1 hs.1 hs.2 h1 h2
          · split at h
            · rename_i e
              cases h
              rw [e]
              exact ok_dsetd (hr _ _ _ _ cx h3).1 (hr _ _ _ _ cx h4).1 (hr _ _ _ _ cx h5).1 hs.1 hs.2 h1 h2
            · cases h
        · cases h
      · cases h
    · cases h
theorem src_ok (hr : RcOk W Γ N C r) (cx : CxS W Γ N C sc X) {it tg : Expr} {cs : CEs} (h : cEs (r sc) (srcOf Γ sc it).2 = some cs) (ht : srcTg (srcOf Γ sc it).1 tg = true) : PI X tg it (wiS W C (srcOf Γ sc it).1 cs) := by
  have q := src_of (Γ := Γ) (sc := sc) it
  generalize (srcOf Γ sc it).1 = s1 at *
  generalize (srcOf Γ sc it).2 = s2 at *
  cases q with
  | val =>
    obtain ⟨ca, h1, rfl, h2⟩ := one_cEs h
    exact ok_srcV cx.hK (hr _ _ _ _ cx h1).1
  | r1 p q a hf =>
    obtain ⟨ca, h1, rfl, h2⟩ := one_cEs h
    obtain ⟨g1, g2⟩ := free_val cx hf
    exact ok_srcR1 g1 g2 (hr _ _ _ _ cx h1).1 h2
  | r2 p q a b hf =>
    obtain ⟨ca, cb, h1, h2, rfl, h3, h4⟩ := two_cEs h
    obtain ⟨g1, g2⟩ := free_val cx hf
    exact ok_srcR2 g1 g2 (hr _ _ _ _ cx h1).1 h3 (hr _ _ _ _ cx h2).1 h4
  | en p q a hf =>
    obtain ⟨ca, h1, rfl, h2⟩ := one_cEs h
    obtain ⟨g1, g2⟩ := free_val cx hf
    cases tg <;> first
      | exact ok_srcE cx.hK g1 g2 (hr _ _ _ _ cx h1).1 h2
      | cases ht
  | zp p q a b hf =>
    obtain ⟨ca, cb, h1, h2, rfl, h3, h4⟩ := two_cEs h
    obtain ⟨g1, g2⟩ := free_val cx hf
    cases tg <;> first
      | exact ok_srcZ cx.hK g1 g2 (hr _ _ _ _ cx h1).1 h3 (hr _ _ _ _ cx h2).1 h4
      | cases ht
theorem fold_of {it : Expr} {env : Env} (h : isLc it = false) (x : Value) : foldedSetIterable it env x = pure x := by
  cases it <;> first
    | rfl
    | cases h
theorem alt_ok {ex : Expr} {c1 c2 : CE} (h1 : PE X ex (rdE W C c1)) (h2 : PE X ex (rdE W C c2)) : PE X ex (rdE W C (.alt c1 c2)) := by
  refine ⟨fun pins s σ H Q I ⟨ι, S, e, d, S', R, Ve, ev, g⟩ => ?_⟩
  simp only [evE] at ev
  split at ev
  · rename_i r hr
    cases ev
    exact h1.run pins s σ H Q I ⟨ι, S, e, d, S', R, Ve, hr, g⟩
  · exact h2.run pins s σ H Q I ⟨ι, S, e, d, S', R, Ve, ev, g⟩
theorem altK_ok (hr : RcOk W Γ N C r) (cx : CxS W Γ N C sc X) {ex it : Expr} {as : CEs} {a : CE} {b : Nat → CE} (h2 : cEs (r sc) (srcOf Γ sc it).2 = some as) (h : PE X ex (rdE W C a)) (hb : ∀ j, isLc it = false → PE X it (rdE W C (.var j)) → PE X ex (rdE W C (b j))) : PE X ex (rdE W C (altK Γ it as a b)) := by
  unfold altK
  split
  · rename_i x p j
    split
    · obtain ⟨ca, h1, e1, _⟩ := one_cEs (show cEs (r sc) [.Name x p] = some _ from h2)
      cases e1
      exact alt_ok h (hb j rfl (hr _ _ _ _ cx h1).1)
    · exact h
  · exact h
theorem cLc_ok (hr : RcOk W Γ N C r) (cx : CxS W Γ N C sc X) {elt : Expr} {gs : List Comprehension} {scope : Scope} (h : cLc Γ N sc (r sc) (r (relS scope sc)) elt gs scope = some c) : PE X (.ListComp elt gs scope pos) (rdE W C c) := by
  unfold cLc at h
  split at h
  · rename_i tg it ifs k
    split at h
    · rename_i t as elt' ifs' h1 h2 h3 h4
      split at h
      · rename_i hw
        cases h
        simp only [Bool.and_eq_true, Bool.not_eq_true', decide_eq_true_eq, List.all_eq_true] at hw
        obtain ⟨⟨⟨⟨⟨⟨rfl, w1⟩, w2⟩, w3⟩, w4⟩, w5⟩, w6⟩ := hw
        have ok := blkOk_by w1
        have key : (∀ (s : Shared) (H : Hp) (A : Addr) (cl : List (Str × Addr)) (fp : List Addr), PG (X.blk s H scope (compEnvC scope cl A X.env) fp) tg (rdG W t)) → (∀ (s : Shared) (H : Hp) (A : Addr) (cl : List (Str × Addr)) (fp : List Addr), PTs (X.blk s H scope (compEnvC scope cl A X.env) fp) ifs (rdTs W C ifs')) →
            (∀ (s : Shared) (H : Hp) (A : Addr) (cl : List (Str × Addr)) (fp : List Addr), PE (X.blk s H scope (compEnvC scope cl A X.env) fp) elt (rdE W C elt')) → PE X (.ListComp elt [⟨tg, it, ifs, 0⟩] scope pos) (rdE W C (altK Γ it as (.lc elt' t (srcOf Γ sc it).1 as ifs' ((ownOf N scope).map (·.2))) fun j => .lcK elt' t j ifs' ((ownOf N scope).map (·.2)))) := fun k1 k2 k3 =>
          altK_ok hr cx h2 ((pe_lc cx.calm (by rw [cx.hN]; exact cx.nd) (src_ok hr cx h2 w4) (by rw [cx.hN, cx.hsc]; exact ok) k1 k2 k3 (fold_of w3)).w (lc_ok (own := (ownOf N scope).map (·.2)) (fun i hi => w5 i hi)))
            fun j hj hv => (pe_lock (pe_lc cx.calm (by rw [cx.hN]; exact cx.nd) (pi_keys hv) (by rw [cx.hN, cx.hsc]; exact ok) k1 k2 k3 (fold_of hj))).w (lcK_ok (own := (ownOf N scope).map (·.2)) (fun i hi => w5 i hi))
        refine key (fun s H A cl fp => ?_) (fun s H A cl fp => ?_) (fun s H A cl fp => ?_)
        · refine ok_tg (sc := scope) cx.hN cx.nd cx.calm cx.hK h1 fun x hx => ?_
          have hx' := w6
          unfold tgRel at hx'
          rw [List.all_eq_true] at hx'
          have q := hx' x hx
          have cb := cx.blk s H scope A cl fp
          simp only [Bool.or_eq_true, Bool.and_eq_true, decide_eq_true_eq] at q
          rcases q with q | ⟨q, q2⟩
          · exact ⟨.inl (by rw [cb.hsc]; exact q), .inr (by rw [cb.hsc]; exact q)⟩
          · exact ⟨.inr (by rw [cb.hsc]; exact q), .inl (by show (scope.names.lookup x == some .cell) = true; rw [q2]; rfl)⟩
        · rcases ifs with _ | ⟨i1, _ | ⟨i2, ir⟩⟩
          · cases h4
            exact rdTs_nil
          · obtain ⟨ci, h5, rfl, h6⟩ := one_cEs h4
            exact rdTs_one (hr _ _ _ _ (cx.blk s H scope A cl fp) h5).2.1
          · simp at w2
        · exact (hr _ _ _ _ (cx.blk s H scope A cl fp) h3).1
      · cases h
    · cases h
  · cases h
theorem cDcm_ok (hr : RcOk W Γ N C r) (cx : CxS W Γ N C sc X) {kx vx : Expr} {gs : List Comprehension} {scope : Scope} (h : cDcm Γ N sc (r sc) (r (relS scope sc)) kx vx gs scope = some c) : PE X (.DictComp kx vx gs scope pos) (rdE W C c) := by
  unfold cDcm at h
  split at h
  · rename_i tg it ifs k
    split at h
    · rename_i t as kx' vx' ifs' h1 h2 h3 h3' h4
      split at h
      · rename_i hw
        cases h
        simp only [Bool.and_eq_true, Bool.not_eq_true', decide_eq_true_eq, List.all_eq_true] at hw
        obtain ⟨⟨⟨⟨⟨⟨rfl, w1⟩, w2⟩, w3⟩, w4⟩, w5⟩, w6⟩ := hw
        have ok := blkOk_by w1
        have key : (∀ (s : Shared) (H : Hp) (A : Addr) (cl : List (Str × Addr)) (fp : List Addr), PG (X.blk s H scope (compEnvC scope cl A X.env) fp) tg (rdG W t)) → (∀ (s : Shared) (H : Hp) (A : Addr) (cl : List (Str × Addr)) (fp : List Addr), PTs (X.blk s H scope (compEnvC scope cl A X.env) fp) ifs (rdTs W C ifs')) →
            (∀ (s : Shared) (H : Hp) (A : Addr) (cl : List (Str × Addr)) (fp : List Addr), PE (X.blk s H scope (compEnvC scope cl A X.env) fp) kx (rdE W C kx')) → (∀ (s : Shared) (H : Hp) (A : Addr) (cl : List (Str × Addr)) (fp : List Addr), PE (X.blk s H scope (compEnvC scope cl A X.env) fp) vx (rdE W C vx')) →
            PE X (.DictComp kx vx [⟨tg, it, ifs, 0⟩] scope pos) (rdE W C (altK Γ it as (.dc kx' vx' t (srcOf Γ sc it).1 as ifs' ((ownOf N scope).map (·.2))) fun j => .dcK kx' vx' t j ifs' ((ownOf N scope).map (·.2)))) := fun k1 k2 k3 k4 =>
          altK_ok hr cx h2 ((pe_dc cx.calm (by rw [cx.hN]; exact cx.nd) (src_ok hr cx h2 w4) (by rw [cx.hN, cx.hsc]; exact ok) k1 k2 k3 k4 (fold_of w3)).w (dc_ok (own := (ownOf N scope).map (·.2)) (fun i hi => w5 i hi)))
            fun j hj hv => (pe_lock (pe_dc cx.calm (by rw [cx.hN]; exact cx.nd) (pi_keys hv) (by rw [cx.hN, cx.hsc]; exact ok) k1 k2 k3 k4 (fold_of hj))).w (dcK_ok (own := (ownOf N scope).map (·.2)) (fun i hi => w5 i hi))
        refine key (fun s H A cl fp => ?_) (fun s H A cl fp => ?_) (fun s H A cl fp => ?_) (fun s H A cl fp => ?_)
        · refine ok_tg (sc := scope) cx.hN cx.nd cx.calm cx.hK h1 fun x hx => ?_
          have hx' := w6
          unfold tgRel at hx'
          rw [List.all_eq_true] at hx'
          have q := hx' x hx
          have cb := cx.blk s H scope A cl fp
          simp only [Bool.or_eq_true, Bool.and_eq_true, decide_eq_true_eq] at q
          rcases q with q | ⟨q, q2⟩
          · exact ⟨.inl (by rw [cb.hsc]; exact q), .inr (by rw [cb.hsc]; exact q)⟩
          · exact ⟨.inr (by rw [cb.hsc]; exact q), .inl (by show (scope.names.lookup x == some .cell) = true; rw [q2]; rfl)⟩
        · rcases ifs with _ | ⟨i1, _ | ⟨i2, ir⟩⟩
          · cases h4
            exact rdTs_nil
          · obtain ⟨ci, h5, rfl, h6⟩ := one_cEs h4
            exact rdTs_one (hr _ _ _ _ (cx.blk s H scope A cl fp) h5).2.1
          · simp at w2
        · exact (hr _ _ _ _ (cx.blk s H scope A cl fp) h3).1
        · exact (hr _ _ _ _ (cx.blk s H scope A cl fp) h3').1
      · cases h
    · cases h
  · cases h
theorem stE_ok (hr : RcOk W Γ N C r) : RcOk W Γ N C (stE Γ N r) := by
  intro sc X e c cx h
  unfold stE at h
  split at h
  · exact cCst_ok cx h
  · exact cNm_ok cx h
  · split at h
    · rename_i x y hx hy
      cases h
      exact snd_of cx.hK (ok_bin cx.hK (hr _ _ _ _ cx hx).1 (hr _ _ _ _ cx hy).1) (fun _ _ _ z => by cases z) fun _ => rfl
    · cases h
  · exact cUn_ok hr cx h
  · exact cBool_ok hr cx h
  · split at h
    · rename_i x y z hx hy hz
      cases h
      have q1 := hr _ _ _ _ cx hx
      have q2 := hr _ _ _ _ cx hy
      have q3 := hr _ _ _ _ cx hz
      exact ⟨ok_if q1.2.1 q2.1 q3.1, ok_ifT q1.2.1 q2.2.1 q3.2.1, fun _ _ _ z => by cases z⟩
    · cases h
  · exact cCmp_ok hr cx h
  · obtain ⟨cs, h1, rfl⟩ := Option.map_eq_some_iff.mp h
    exact snd_of cx.hK (ok_tup (cEs_ok hr cx h1).1) (fun _ _ _ z => by cases z) fun _ => rfl
  · obtain ⟨cs, h1, rfl⟩ := Option.map_eq_some_iff.mp h
    exact snd_of cx.hK (ok_lst (cEs_ok hr cx h1).1) (fun _ _ _ z => by cases z) fun _ => rfl
  · exact cDic_ok hr cx h
  · exact cSub_ok hr cx h
  · split at h
    · exact snd_of cx.hK (cFn_ok hr cx h) (fun _ _ _ z => by cases z) fun _ => rfl
    · split at h
      · exact snd_of cx.hK (cImt_ok hr cx h) (fun _ _ _ z => by cases z) fun _ => rfl
      · exact snd_of cx.hK (cMet_ok hr cx h) (fun _ _ _ z => by cases z) fun _ => rfl
    · cases h
  · exact snd_of cx.hK (cLc_ok hr cx h) (fun _ _ _ z => by cases z) fun _ => rfl
  · exact snd_of cx.hK (cDcm_ok hr cx h) (fun _ _ _ z => by cases z) fun _ => rfl
  · split at h
    · cases h
    · rename_i hn
      simp only [Bool.or_eq_true, Bool.not_eq_true', not_or, Bool.not_eq_true, Bool.not_eq_false, decide_eq_true_eq] at hn
      obtain ⟨co, h1, rfl⟩ := Option.map_eq_some_iff.mp h
      exact snd_of cx.hK (ok_attr (cx.att _ hn.2) (cx.xat _ hn.2) (hr _ _ _ _ cx h1).1 hn.1) (fun _ _ _ z => by cases z) fun _ => rfl
  · cases h
theorem cmE_ok : ∀ n : Nat, RcOk W Γ N C (cmE Γ N n)
  | 0 => fun sc X e c cx h => by cases h
  | n + 1 => stE_ok (cmE_ok n)
end
end PC
end
section
set_option Elab.async false
set_option linter.all false
set_option maxRecDepth 100000
set_option maxHeartbeats 1000000
/-! PC: statements. -/
namespace PC
open PySem L2
def GdS (W : Wd) (ι : List Addr) (S : Sto) (H : Hp) (S' : Sto) (e' : En) (f : Fl) (D : Ends) : Prop := ∀ ι' H' σ', Ext ι S H ι' S' H' → Rep W ι' S' H' → EnV W ι' H' e' σ' → match f with
  | .nx => D.nx σ' H'
  | .bk => D.bk σ' H'
  | .ct => D.ct σ' H'
  | .rt d => ∀ v, DV W ι' H' d v → D.rt v H'
section
variable (W : Wd) (C : Cal)
def rdS (c : CS) : TS := fun D σ H => ∃ ι S e f e' S', Rep W ι S H ∧ EnV W ι H e σ ∧ exS C c e S = some (f, e', S') ∧ GdS W ι S H S' e' f D
def rdSs (c : CSs) : TS := fun D σ H => ∃ ι S e f e' S', Rep W ι S H ∧ EnV W ι H e σ ∧ exSs C c e S = some (f, e', S') ∧ GdS W ι S H S' e' f D
end
theorem bnS_some {α : Type} {m : Re α} {k : α → Sto → Rs} {r : Fl × En × Sto} (h : bnS m k = some r) : ∃ a S, m = some (a, S) ∧ k a S = some r := by
  unfold bnS at h
  split at h
  · exact ⟨_, _, rfl, h⟩
  · cases h
section
variable {W : Wd} {C : Cal} {ι ι' ι1 ι2 : List Addr} {S S' S0 S1 S2 : Sto} {H H' H1 H2 : Hp} {e e' : En} {σ σ' : L2.St} {X : Cx} {a b c : Expr} {ca cb cc : CE} {pos p : Pos} {es : List Expr} {cs : CEs}
theorem GdS.thru {f : Fl} {D : Ends} (g : GdS W ι S H S2 e' f D) (E : Ext ι S H ι1 S1 H1) (R : Rep W ι1 S1 H1) : GdS W ι1 S1 H1 S2 e' f D := fun ι' H' σ' E' R' V' => g ι' H' σ' (E.trans R E') R' V'
theorem _root_.L2.PS.w {st : Stmt} {t t' : TS} (h : PS X st t) (k : ∀ D σ H, t' D σ H → t D σ H) : PS X st t' := ⟨fun pins s σ H D I q => h.run pins s σ H D I (k D σ H q)⟩
theorem _root_.L2.PSs.w {st : List Stmt} {t t' : TS} (h : PSs X st t) (k : ∀ D σ H, t' D σ H → t D σ H) : PSs X st t' := ⟨fun pins s σ H D I q => h.run pins s σ H D I (k D σ H q)⟩
variable {st : Stmt} {sts : List Stmt} {c1 : CS} {c2 : CSs}
theorem os_nil : PSs X [] (rdSs W C .nil) := pss_nil.w fun D σ H ⟨ι, S, e, f, e', S', R, Ve, ev, g⟩ => by
  simp only [exSs] at ev
  cases ev
  exact g ι H σ .refl R Ve
theorem os_cons (h1 : PS X st (rdS W C c1)) (h2 : PSs X sts (rdSs W C c2)) : PSs X (st :: sts) (rdSs W C (.cons c1 c2)) := (pss_cons h1 h2).w fun D σ H ⟨ι, S, e, f, e', S', R, Ve, ev, g⟩ => by
  simp only [exSs] at ev
  split at ev
  · rename_i e1 S1 h
    exact ⟨ι, S, e, .nx, e1, S1, R, Ve, h, fun ι' H' σ' E R' V' => ⟨ι', S1, e1, f, e', S', R', V', ev, g.thru E R'⟩⟩
  · rename_i hne
    refine ⟨ι, S, e, f, e', S', R, Ve, ev, fun ι' H' σ' E R' V' => ?_⟩
    have q := g ι' H' σ' E R' V'
    cases f with
    | nx => exact absurd ev (hne _ _)
    | bk => exact q
    | ct => exact q
    | rt d => exact q
theorem os_pass : PS X (.Pass pos) (rdS W C .pass) := ps_pass.w fun D σ H ⟨ι, S, e, f, e', S', R, Ve, ev, g⟩ => by
  simp only [exS] at ev
  cases ev
  exact g ι H σ .refl R Ve
theorem os_brk : PS X (.Break pos) (rdS W C .brk) := ps_break.w fun D σ H ⟨ι, S, e, f, e', S', R, Ve, ev, g⟩ => by
  simp only [exS] at ev
  cases ev
  exact g ι H σ .refl R Ve
theorem os_cnt : PS X (.Continue pos) (rdS W C .cnt) := ps_continue.w fun D σ H ⟨ι, S, e, f, e', S', R, Ve, ev, g⟩ => by
  simp only [exS] at ev
  cases ev
  exact g ι H σ .refl R Ve
theorem os_retN : PS X (.Return none pos) (rdS W C .retN) := ps_retN.w fun D σ H ⟨ι, S, e, f, e', S', R, Ve, ev, g⟩ => by
  simp only [exS] at ev
  cases ev
  exact g ι H σ .refl R Ve .non rfl
theorem os_ret (ha : PE X a (rdE W C ca)) : PS X (.Return (some a) pos) (rdS W C (.ret ca)) := (ps_ret ha).w fun D σ H ⟨ι, S, e, f, e', S', R, Ve, ev, g⟩ => by
  simp only [exS] at ev
  obtain ⟨d, S1, e1, ev⟩ := bnS_some ev
  cases ev
  exact rdE_then R Ve e1 fun ι1 H1 v E1 R1 hv V1 => g ι1 H1 σ E1 R1 V1 v hv
theorem os_expr (ha : PE X a (rdE W C ca)) (hs : swapsWith a none pos.line X.env = pure false) : PS X (.Expr a pos) (rdS W C (.exp ca)) := (ps_expr ha hs).w fun D σ H ⟨ι, S, e, f, e', S', R, Ve, ev, g⟩ => by
  simp only [exS] at ev
  obtain ⟨d, S1, e1, ev⟩ := bnS_some ev
  cases ev
  exact rdE_then R Ve e1 fun ι1 H1 v E1 R1 hv V1 => g ι1 H1 σ E1 R1 V1
theorem os_if {A B : List Stmt} {cA cB : CSs} (hc : PT X c (rdT W C cc)) (ha : PSs X A (rdSs W C cA)) (hb : PSs X B (rdSs W C cB)) : PS X (.If c A B pos) (rdS W C (.ifS cc cA cB)) := (ps_if hc ha hb).w fun D σ H ⟨ι, S, e, f, e', S', R, Ve, ev, g⟩ => by
  simp only [exS] at ev
  obtain ⟨k, S1, e1, ev⟩ := bnS_some ev
  refine rdT_then R Ve e1 fun ι1 H1 E1 R1 V1 => ?_
  cases k with
  | true => exact ⟨ι1, S1, e, f, e', S', R1, V1, ev, g.thru E1 R1⟩
  | false => exact ⟨ι1, S1, e, f, e', S', R1, V1, ev, g.thru E1 R1⟩
/-- x = e, and any one target -/
theorem rd_asg {t : Tg} {D : Ends} {σ : L2.St} {H : Hp} (h : rdS W C (.set t ca) D σ H) : tAsg (rdE W C ca) (rdG W t) D σ H := by
  obtain ⟨ι, S, e, f, e', S', R, Ve, ev, g⟩ := h
  simp only [exS] at ev
  obtain ⟨d, S1, e1, ev⟩ := bnS_some ev
  obtain ⟨e2, h1, h2⟩ := Option.map_eq_some_iff.mp ev
  cases h2
  exact rdE_then R Ve e1 fun ι1 H1 v E1 R1 hv V1 => ⟨ι1, _, e, d, e', R1, V1, hv, h1, fun σ' V' _ _ => g ι1 H1 σ' E1 R1 V'⟩
theorem os_while {B : List Stmt} {cB : CSs} (hp : PassesOwn (model X.prog X.w) X.A X.env X.xe) (hc : PT X c (rdT W C cc)) (hb : PSs X B (rdSs W C cB)) : PS X (.While c B [] pos) (rdS W C (.whl cc cB)) := (ps_while hp hc hb).w fun D σ H ⟨ι, S, e, f, e', S', R, Ve, ev, g⟩ => by
  simp only [exS] at ev
  refine ⟨fun m σ1 H1 => ∃ ι1 S1 e1, Ext ι S H ι1 S1 H1 ∧ Rep W ι1 S1 H1 ∧ EnV W ι1 H1 e1 σ1 ∧ whlLoop (tstE C cc) (exSs C cB) m e1 S1 = some (f, e', S'), ⟨turns, ι, S, e, .refl, R, Ve, ev⟩, ?_⟩
  rintro m σ1 H1 ⟨ι1, S1, e1, E1, R1, V1, hl⟩
  cases m with
  | zero => cases hl
  | succ k =>
    simp only [whlLoop] at hl
    split at hl
    · rename_i S2 ht
      refine rdT_then R1 V1 ht fun ι2 H2 E2 R2 V2 => ?_
      simp only [if_true]
      refine ⟨fun σ3 H3 => ∃ ι3 S3 e3, Ext ι S H ι3 S3 H3 ∧ Rep W ι3 S3 H3 ∧ EnV W ι3 H3 e3 σ3 ∧ whlLoop (tstE C cc) (exSs C cB) k e3 S3 = some (f, e', S'), fun σ3 H3 q => ⟨k, Nat.lt_succ_self k, q⟩, ?_⟩
      have E12 := E1.trans R1 E2
      split at hl
      · rename_i e3 S3 hx
        exact ⟨ι2, S2, e1, .nx, e3, S3, R2, V2, hx, fun ι' H' σ' E R' V' => ⟨ι', S3, e3, E12.trans R2 E, R', V', hl⟩⟩
      · rename_i e3 S3 hx
        exact ⟨ι2, S2, e1, .ct, e3, S3, R2, V2, hx, fun ι' H' σ' E R' V' => ⟨ι', S3, e3, E12.trans R2 E, R', V', hl⟩⟩
      · rename_i e3 S3 hx
        cases hl
        exact ⟨ι2, S2, e1, .bk, e', S', R2, V2, hx, fun ι' H' σ' E R' V' => g ι' H' σ' (E12.trans R2 E) R' V'⟩
      · rename_i d e3 S3 hx
        cases hl
        exact ⟨ι2, S2, e1, .rt d, e', S', R2, V2, hx, fun ι' H' σ' E R' V' => g ι' H' σ' (E12.trans R2 E) R' V'⟩
      · cases hl
    · rename_i S2 ht
      cases hl
      refine rdT_then R1 V1 ht fun ι2 H2 E2 R2 V2 => ?_
      simp only [Bool.false_eq_true, if_false]
      exact g ι2 H2 σ1 (E1.trans R1 E2) R2 V2
    · cases hl
theorem os_for {B : List Stmt} {cB : CSs} {tg iter : Expr} {t : Tg} {src : Src} {it : CEs} (hp : PassesOwn (model X.prog X.w) X.A X.env X.xe) (hc : X.calm = true) (hi : PI X tg iter (wiS W C src it)) (hg : PG X tg (rdG W t)) (hb : PSs X B (rdSs W C cB))
    (hs : ∀ x, foldedSetIterable iter X.env x = pure x) : PS X (.For tg iter B [] pos) (rdS W C (.for_ t src it cB)) := (ps_for hp hc hi hg hb hs).w fun D σ H ⟨ι0, S0, e0, f, e', S', R0, Ve, ev, g⟩ => by
  simp only [exS] at ev
  obtain ⟨as, S1, e1, ev⟩ := bnS_some ev
  split at ev
  · rename_i xs st hit
    split at ev
    · rename_i fl e2 S2 hl
      cases ev
      refine ⟨ι0, S0, e0, as, S1, xs, st, R0, Ve, e1, hit, fun ι1 H1 J E1 R1 w => ?_⟩
      obtain ⟨G, Y, wk, hY⟩ := w
      have Rf : Rep W ι1 (st.foldl froz S1) H1 := R1.froz
      have V1 := (Ve.mono E1 R0).mono (fr_refl (st := st)) R1
      have fin : ∀ ι H σ, Ext ι1 (st.foldl froz S1) H1 ι S2 H → Rep W ι S2 H → EnV W ι H e' σ → Ext ι0 S0 _ ι (st.foldl (thaw S1) S2) H ∧ Rep W ι (st.foldl (thaw S1) S2) H := fun ι H σ E R V => by
        obtain ⟨R2, E2⟩ := loop_end E R
        exact ⟨E1.trans R1 E2, R2⟩
      refine for_it wk (fun i σ H => ∃ ι S e, Ext ι1 (st.foldl froz S1) H1 ι S H ∧ Rep W ι S H ∧ EnV W ι H e σ ∧ forLoop (forB (exSs C cB) t) (xs.drop i) e S = some (f, e', S2)) ⟨ι1, _, e0, .refl, Rf, V1, hl⟩ ?_ ?_ ?_
      · rintro i σ H hi ⟨ι, S, e, E, R, V, hl⟩
        exact (hY ι S H E R).1
      · rintro i x σ H H' hi ⟨ι, S, e, E, R, V, hl⟩ hy
        obtain ⟨R', E', dx, hx, hdx⟩ := (hY ι S H E R).2 i x H' hi hy
        have ed : xs.drop i = dx :: xs.drop (i + 1) := by
          rw [List.drop_eq_getElem_cons hi]
          rw [List.getElem?_eq_getElem hi] at hx
          cases hx
          rfl
        rw [ed] at hl
        have Eb : Ext ι1 (st.foldl froz S1) H1 ι S H' := E.trans R E'
        simp only [forLoop, forB] at hl
        cases hp : putT t dx e with
        | none => rw [hp] at hl; cases hl
        | some e3 =>
          rw [hp] at hl
          simp only at hl
          refine ⟨ι, S, e, dx, e3, R', V.mono E' R, hdx, hp, fun σ2 V2 _ _ => ?_⟩
          split at hl
          · rename_i e4 S4 hx
            exact ⟨ι, S, e3, .nx, e4, S4, R', V2, hx, fun ι' H' σ' E R2 V' => ⟨ι', S4, e4, Eb.trans R' E, R2, V', hl⟩⟩
          · rename_i e4 S4 hx
            exact ⟨ι, S, e3, .ct, e4, S4, R', V2, hx, fun ι' H' σ' E R2 V' => ⟨ι', S4, e4, Eb.trans R' E, R2, V', hl⟩⟩
          · rename_i e4 S4 hx
            cases hl
            refine ⟨ι, S, e3, .bk, e', S2, R', V2, hx, fun ι' H' σ' E R2 V' => ?_⟩
            obtain ⟨E3, R3⟩ := fin ι' H' σ' (Eb.trans R' E) R2 V'
            exact g ι' H' σ' E3 R3 V'
          · rename_i d e4 S4 hx
            cases hl
            refine ⟨ι, S, e3, .rt d, e', S2, R', V2, hx, fun ι' H' σ' E R2 V' => ?_⟩
            obtain ⟨E3, R3⟩ := fin ι' H' σ' (Eb.trans R' E) R2 V'
            exact g ι' H' σ' E3 R3 V'
          · cases hl
      · rintro σ H ⟨ι, S, e, E, R, V, hl⟩
        rw [List.drop_length] at hl
        simp only [forLoop] at hl
        cases hl
        obtain ⟨E3, R3⟩ := fin ι H σ E R V
        exact g ι H σ E3 R3 V
    · cases ev
  · cases ev
/-! ### o[i] = v -/
def rSet (W : Wd) : TSet := fun o i v H Q => ∃ ι S d1 d2 d3 S', Rep W ι S H ∧ DV W ι H d1 o ∧ DV W ι H d2 i ∧ DV W ι H d3 v ∧ setD d1 d2 d3 S = some S' ∧ ∀ H', Ext ι S H ι S' H' → Rep W ι S' H' → Q H'
theorem write_E (R : Rep W ι S H) {n : Nat} {a : Addr} {o : Ob} {u : HO} (hn : ι[n]? = some a) (hz : ¬ Fz S[n]?) (ho : Own u) (h : OV W ι (upd H a u) a o) : Rep W ι (S.set n o) (upd H a u) ∧ Ext ι S H ι (S.set n o) (upd H a u) := R.write hn hz h
theorem set_ok (hK : X.K = W.K) (hw : X.w = W.w) (hu : X.A.units + 1 < cLine) : PSet X (rSet W) := by
  intro pins s σ H o i v ov iv u Q I ro ri rv h
  obtain ⟨ι, S, d1, d2, d3, S', R, h1, h2, h3, e, k⟩ := h
  unfold setD at e
  split at e
  · rename_i n
    obtain ⟨a, rfl, hn⟩ := h1
    split at e
    · rename_i xs hs
      obtain ⟨vs, q, r⟩ := R.ob n a _ hn hs
      split at e
      · rename_i j
        obtain ⟨kk, hk, rfl⟩ := Option.map_eq_some_iff.mp e
        cases (show i = .int _ from h2)
        refine L2.set_list pins s σ H _ _ v ov iv u Q I ro ri rv ⟨a, vs, j, kk, rfl, rfl, q, by rw [← DVs.length r]; exact hk, ?_⟩
        obtain ⟨R', E'⟩ := R.write (u := .lst (vs.set kk v)) (o := .lst (xs.set kk d3)) hn (fz_lst hs) ⟨_, upd_same, DVs.set (DV.gen (fun _ _ h => h) (own_keep q trivial) _ _ h3) kk (DVs.gen (fun _ _ h => h) (own_keep q trivial) _ _ r)⟩
        exact k _ E' R'
      · cases e
    · rename_i kvs hs
      obtain ⟨vs, q, r⟩ := R.ob n a _ hn hs
      split at e
      · rename_i key hkey
        split at e
        · rename_i hl
          cases e
          have hv := key_v (W := W) (ι := ι) (H := H) hkey h2
          refine set_dict hu pins s σ H _ _ v ov iv u Q I ro ri rv ⟨a, _, rfl, .inl ⟨vs, key, q, hv.symm, by rw [← KVr.length r]; exact hl, rfl⟩, ?_⟩
          obtain ⟨R', E'⟩ := R.write (u := .dK (L2.putK vs key v)) (o := .dk (putK key d3 kvs)) hn (by rw [hs]; exact id) ⟨_, upd_same, put_kv (DV.gen (fun _ _ h => h) (own_keep q trivial) _ _ h3) (KVr.gen (fun _ _ h => h) (own_keep q trivial) r)⟩
          exact k _ E' R'
        · cases e
      · split at e
        · rename_i he
          obtain ⟨key, hkey, rfl⟩ := Option.map_eq_some_iff.mp e
          obtain ⟨b', rfl, hb⟩ := keysOf_v hkey h2
          have e0 : kvs = [] := by simpa using he
          subst e0
          cases r
          cases ro
          cases ri
          have I' := to_dt I q
          refine dt_set hu I' upd_same (fun _ z => nomatch z) (sqt_upd q trivial (by rw [hK]; exact hb)) (Nat.zero_le _) fun s' I2 => ?_
          rw [upd_upd, hw] at I2
          obtain ⟨R', E'⟩ := R.write (u := dtO X.prog W.w a (storedH [] key b' u)) (o := .dt [(key, d3)]) hn (by rw [hs]; exact id) ⟨X.prog, _, upd_same, dtr_put (kvs := []) .nil (sqt_upd q trivial hb) (DV.gen (fun _ _ h => h) (own_keep q trivial) _ _ h3) rv, dt_fact I2 upd_same⟩
          exact ⟨_, I2, k _ E' R'⟩
        · cases e
    · rename_i kvs hs
      obtain ⟨P, xs, q, r, hh, hdt⟩ := R.ob n a _ hn hs
      split at e
      · rename_i key hkey
        split at e
        · rename_i hl
          cases e
          obtain ⟨b', rfl, hb⟩ := keysOf_v hkey h2
          cases ro
          cases ri
          have hks : ∀ q ∈ xs, SqT X.K H q.2.1 (q.1.map kV) := fun q hq => by rw [hK]; exact dtr_keys r q hq
          have own : Own (dtO P W.w a xs) := ⟨P, W.w, a, xs, hh, rfl, hdt⟩
          have hq : H a = some (dtO P X.w a xs) := by rw [hw]; exact q
          refine dt_set hu I hq hks (by rw [hK]; exact hb) (by rw [← dtr_len r, ← line_eq]; exact Nat.le_of_lt hl) fun s' I2 => ?_
          rw [hw] at I2
          obtain ⟨R', E'⟩ := R.write (u := dtO X.prog W.w a (storedH xs key b' u)) (o := .dt (putK key d3 kvs)) hn (by rw [hs]; exact id) ⟨X.prog, _, upd_same, dtr_put (DTr.gen (fun _ _ h => h) (own_keep q own) r) (sqt_upd q own hb) (DV.gen (fun _ _ h => h) (own_keep q own) _ _ h3) rv, dt_fact I2 upd_same⟩
          exact ⟨_, I2, k _ E' R'⟩
        · cases e
      · cases e
    · cases e
  · cases e
theorem os_setI {o i : Expr} {co ci : CE} {p2 : Pos} (hK : X.K = W.K) (hw : X.w = W.w) (hu : X.A.units + 1 < cLine) (ho : PE X o (rdE W C co)) (hi : PE X i (rdE W C ci)) (ha : PE X a (rdE W C ca)) (hl : isLc a = false) (hsl : isSlc i = false) : PS X (.Assign [.Subscript o i p2] a pos) (rdS W C (.setI co ci ca)) := by
  have h1 : swapsWithSole [.Subscript o i p2] a pos.line X.env = pure false := by
    cases a <;> first
      | rfl
      | cases hl
  have h2 : swappedStores [.Subscript o i p2] a X.env = pure none := by
    cases a <;> first
      | rfl
      | cases hl
  have h3 : ∀ v, assign (.Subscript o i p2) X.env v = (do
      let ov ← holding [v] (eval o X.env)
      let iv ← holding [v, ov] (eval i X.env)
      standAt p2
      holding [v, ov, iv] (setItem ov iv v)
      release [v, ov, iv] []) := by
    intro v
    cases i <;> first
      | rfl
      | cases hsl
  refine (ps_asg ha (pg_sub ho hi (set_ok (W := W) hK hw hu) h3) h1 h2).w fun D σ H ⟨ι, S, e, f, e', S', R, Ve, ev, g⟩ => ?_
  simp only [exS] at ev
  obtain ⟨d, S1, e1, ev⟩ := bnS_some ev
  obtain ⟨q, S2, e2, ev⟩ := bnS_some ev
  obtain ⟨j, S3, e3, ev⟩ := bnS_some ev
  obtain ⟨S4, h4, h5⟩ := Option.map_eq_some_iff.mp ev
  cases h5
  exact rdE_then R Ve e1 fun ι1 H1 v E1 R1 hv V1 => rdE_then R1 V1 e2 fun ι2 H2 w E2 R2 hw V2 => rdE_then R2 V2 e3 fun ι3 H3 u E3 R3 hu V3 =>
    ⟨ι3, S3, q, j, d, _, R3, DV.mono E3 R2 _ _ hw, hu, DV.mono E3 R2 _ _ (DV.mono E2 R1 _ _ hv), h4, fun H4 E4 R4 =>
      g ι3 H4 σ (((E1.trans R1 E2).trans R2 E3).trans R3 E4) R4 (V3.mono E4 R3)⟩
/-! ### x += v -/
def rAug (W : Wd) (op : Operator) : TIp := fun x y H Q => ∃ ι S d1 d2 d, Rep W ι S H ∧ DV W ι H d1 x ∧ DV W ι H d2 y ∧ augD op d1 d2 = some d ∧ ∀ v, DV W ι H d v → Q v H
theorem aug_ok (op : Operator) : PIp X op (rAug W op) := by
  intro pins s σ H x y v u Q I rx ry h
  obtain ⟨ι, S, d1, d2, d, R, h1, h2, e, k⟩ := h
  unfold augD at e
  split at e
  · cases e
    cases (show x = .int _ from h1)
    cases (show y = .int _ from h2)
    exact iop_add pins s σ H _ _ v u Q I rx ry ⟨_, _, rfl, rfl, k _ rfl⟩
  · split at e
    · rename_i hz
      cases e
      cases (show x = .str _ from h1)
      cases (show y = .str _ from h2)
      exact iop_add_str pins s σ H _ _ v u Q I rx ry ⟨_, _, rfl, rfl, hz, k _ rfl⟩
    · cases e
  · cases e
    cases (show x = .int _ from h1)
    cases (show y = .int _ from h2)
    exact iop_sub pins s σ H _ _ v u Q I rx ry ⟨_, _, rfl, rfl, k _ rfl⟩
  · cases e
theorem os_aug {i : Nat} {x : Str} {op : Operator} {p2 : Pos} (hN : X.N.Nodup) (hi : X.N[i]? = some x) (hs : StB X x) (ha : PE X a (rdE W C ca)) : PS X (.AugAssign (.Name x p2) op a pos) (rdS W C (.aug i op ca)) :=
  (ps_aug hN hi hs.loc ha (aug_ok (W := W) op) hs.fn).w fun D σ H ⟨ι, S, e, f, e', S', R, Ve, ev, g⟩ => by
    simp only [exS] at ev
    split at ev
    · rename_i d hd
      obtain ⟨y, S1, e1, ev⟩ := bnS_some ev
      split at ev
      · rename_i z hz
        cases ev
        obtain ⟨v, h1, h2⟩ := Ve.2 i d hd
        replace h2 := h2.dv (by
          cases d <;> first
            | rfl
            | (unfold augD at hz; cases op <;> cases hz))
        exact ⟨v, h1, rdE_then R Ve e1 fun ι1 H1 w E1 R1 hw V1 => ⟨ι1, _, d, y, z, R1, DV.mono E1 R _ _ h2, hw, hz, fun u hu => g ι1 H1 _ E1 R1 (V1.set hu)⟩⟩
      · cases ev
    · cases ev
/-! ### o.f = v, o.f += v -/
theorem sat_some {p : D} {f : Str} {v : D} {S S' : Sto} (h : satD p f v S = some S') : ∃ n c fs, p = .ref n ∧ S[n]? = some (.ins c fs) ∧ fs.length < 1000 ∧ S' = S.set n (.ins c (fldD f v fs)) := by
  unfold satD at h
  split at h
  · rename_i n
    split at h
    · rename_i c fs hs
      split at h
      · rename_i hl
        cases h
        exact ⟨n, c, fs, rfl, hs, hl, rfl⟩
      · cases h
    · cases h
  · cases h
theorem sat_rep {n c : Nat} {fs : List (Str × D)} {a : Addr} {f : Str} {d : D} {v : V} {ι : List Addr} {S : Sto} {H : Hp} (R : Rep W ι S H) (hs : S[n]? = some (.ins c fs)) (ha : ι[n]? = some a) (hv : DV W ι H d v) :
    ∃ dx gs, c < W.nc ∧ H a = some (.ins (W.ca c) dx gs) ∧ KVr W ι H fs gs ∧ Rep W ι (S.set n (.ins c (fldD f d fs))) (upd H a (.ins (W.ca c) dx (putF f v gs))) ∧ Ext ι S H ι (S.set n (.ins c (fldD f d fs))) (upd H a (.ins (W.ca c) dx (putF f v gs))) := by
  obtain ⟨hc, dx, gs, q, r⟩ := R.ob n a _ ha hs
  have hz : ¬ Fz S[n]? := by
    rw [hs]
    exact id
  have E0 : ∀ {x : D} {w : V}, DV W ι H x w → DV W ι (upd H a (.ins (W.ca c) dx (putF f v gs))) x w := fun {x w} hx => DV.gen (fun _ _ h => h) (own_keep q trivial) x w hx
  have hr : KVr W ι (upd H a (.ins (W.ca c) dx (putF f v gs))) (fldD f d fs) (putF f v gs) := kvr_put (E0 hv) (Paired.imp (fun p q z => ⟨z.1, E0 z.2⟩) r)
  obtain ⟨R1, E1⟩ := R.write (o := .ins c (fldD f d fs)) (u := .ins (W.ca c) dx (putF f v gs)) ha hz ⟨hc, dx, putF f v gs, upd_same, hr⟩
  exact ⟨dx, gs, hc, q, r, R1, E1⟩
theorem os_setA {o : Expr} {co : CE} {f : Str} {p2 : Pos} (hA : AttOk W X.K f) (ho : PE X o (rdE W C co)) (ha : PE X a (rdE W C ca)) : PS X (.Assign [.Attribute o f p2] a pos) (rdS W C (.setA co f ca)) := by
  have h1 : swapsWith a (some (.Attribute o f p2)) pos.line X.env = pure false := by
    cases a <;> rfl
  refine (ps_fld ho ha h1).w fun D σ H ⟨ι, S, e, fl, e', S', R, Ve, ev, g⟩ => ?_
  simp only [exS] at ev
  obtain ⟨d, S1, e1, ev⟩ := bnS_some ev
  obtain ⟨q, S2, e2, ev⟩ := bnS_some ev
  obtain ⟨S3, h4, h5⟩ := Option.map_eq_some_iff.mp ev
  cases h5
  obtain ⟨n, c, fs, rfl, hs, hlen, rfl⟩ := sat_some h4
  refine rdE_then R Ve e1 fun ι1 H1 v E1 R1 hv V1 => rdE_then R1 V1 e2 fun ι2 H2 w E2 R2 hw V2 => ?_
  obtain ⟨x, rfl, hx⟩ := hw
  obtain ⟨dx, gs, hc, q, r, R3, E3⟩ := sat_rep (f := f) R2 hs hx (DV.mono E2 R1 _ _ hv)
  exact ⟨x, _, dx, gs, rfl, q, (hA c hc).1, (hA c hc).2, by rw [← kvr_len r]; exact hlen, g ι2 _ σ ((E1.trans R1 E2).trans R2 E3) R3 (V2.mono E3 R2)⟩
theorem atr_some {b : D} {m : Nat} {f : Str} {S : Sto} (h : atrD (.ref m) f S = some b) : ∃ n c fs, D.ref m = .ref n ∧ S[n]? = some (.ins c fs) ∧ fs.lookup f = some b := by
  unfold atrD at h
  simp only at h
  split at h
  · rename_i c fs hs
    exact ⟨m, c, fs, rfl, hs, h⟩
  · cases h
theorem augI_add {x y z : D} (h : augI .Add x y = some z) : ∃ i j, x = .int i ∧ y = .int j ∧ z = .int (i + j) := by
  cases x <;> first
    | (cases y <;> first
      | (cases h; exact ⟨_, _, rfl, rfl, rfl⟩)
      | cases h)
    | cases h
theorem os_augA {o : Expr} {co : CE} {f : Str} {p2 : Pos} (hA : AttOk W X.K f) (ho : PE X o (rdE W C co)) (ha : PE X a (rdE W C ca)) : PS X (.AugAssign (.Attribute o f p2) .Add a pos) (rdS W C (.augA co f .Add ca)) := by
  refine (ps_fldaug ho ha in_add).w fun D σ H ⟨ι, S, e, fl, e', S', R, Ve, ev, g⟩ => ?_
  simp only [exS] at ev
  obtain ⟨y, S1, e1, ev⟩ := bnS_some ev
  split at ev
  · rename_i b hb
    obtain ⟨d, S2, e2, ev⟩ := bnS_some ev
    split at ev
    · rename_i hcl
      split at ev
      · rename_i z hz
        obtain ⟨S3, h4, h5⟩ := Option.map_eq_some_iff.mp ev
        cases h5
        obtain ⟨n, c, fs, rfl, hs, hlen, rfl⟩ := sat_some h4
        obtain ⟨n1, c1, fs1, en, hs1, hl1⟩ := atr_some hb
        cases en
        obtain ⟨i, j, rfl, rfl, rfl⟩ := augI_add hz
        have ecl : c1 = c := by
          unfold clsD at hcl
          simp only [hs1, hs] at hcl
          exact Option.some.inj hcl
        subst ecl
        refine rdE_then R Ve e1 fun ι1 H1 v E1 R1 hv V1 => ?_
        obtain ⟨x, rfl, hx⟩ := hv
        obtain ⟨hc1, dx, gs, q, r⟩ := R1.ob _ x _ hx hs1
        obtain ⟨w, hw, hdw⟩ := (kvr_lookup (f := f) r).1 _ hl1
        refine ⟨x, _, dx, gs, w, rfl, q, (hA c1 hc1).1, (hA c1 hc1).2, hw, rdE_then R1 V1 e2 fun ι2 H2 u E2 R2 hu V2 => ?_⟩
        cases (show w = .int _ from hdw)
        cases (show u = .int _ from hu)
        refine ⟨i, j, rfl, rfl, ?_⟩
        obtain ⟨dx2, gs2, hc, q2, r2, R3, E3⟩ := sat_rep (f := f) (d := .int (i + j)) (v := .int (i + j)) R2 hs (E2.get hx) rfl
        exact ⟨dx2, gs2, q2, by rw [← kvr_len r2]; exact hlen, g ι2 _ σ ((E1.trans R1 E2).trans R2 E3) R3 (V2.mono E3 R2)⟩
      · cases ev
    · cases ev
  · cases ev
end
end PC
end
section
set_option Elab.async false
set_option linter.all false
set_option maxRecDepth 100000
set_option maxHeartbeats 1000000
/-! PC: a, *r = a tuple. -/
namespace PC
open PySem L2
open PyProof.Rows (seqObj IsTup)
section
variable {prog : Program} {w : World} {A : Around} {E : Value → Shared → Prop} {s : Shared}
theorem unpack_star {l : Addr} {items : Array Value} {i : Nat} {Q : List Value → Shared → Prop} (hl : IsTup s.heap l items) (hh : A.handled = none) (hi : i ≤ items.size) (hz : items.size ≤ PySem.sizeLine)
    (h : ∀ (h2 : Heap) (tk : Nat), (∀ b o, s.heap.get? b = some o → h2.get? b = some o) → Q (items.toList.take i ++ [.ref h2.objs.size]) { s with heap := h2.push (seqObj "list" (items.toList.drop i).toArray 0), toks := tk }) :
    wpAny (model prog w) A (unpackItems (.ref l) (i + 1) (some i)) Q E s := by
  have hll : l < s.heap.objs.size := by
    obtain ⟨o, ho, _⟩ := hl
    exact Heap.lt_size ho
  have hlt : l ≠ s.heap.objs.size := Nat.ne_of_lt hll
  unfold unpackItems
  refine wpAny_bind ?_
  unfold notIterableAtAll
  refine wpAny_bind (wpAny_specialOf hl.typeIs PyProof.Rows.slot_tuple_iter.lookup (wpAny_pure ?_))
  simp only [Bool.false_eq_true, if_false]
  refine wpAny_bind (wpAny_holding (PyProof.Rows.iter_tuple hl ?_))
  refine wpAny_bind (wpAny_holding (PyProof.Rows.draw_tuple hlt i 0 _ _ ⟨_, Heap.get?_push_size _ rfl, rfl, rfl⟩ (hl.push _) (by omega) fun h1 hit hs => ?_))
  have hl1 : IsTup h1 l items := (hl.push _).extBut hs.extBut hlt
  rw [Nat.zero_add] at hit
  obtain ⟨oi, hoi, _⟩ := id hit
  obtain ⟨ol, hol, _⟩ := id hl1
  rw [List.drop_zero]
  have hfl : (items.toList.take i).length = i := by
    rw [List.length_take, Array.length_toList]
    omega
  rw [if_neg (show ¬ ((items.toList.take i).length < i) by omega)]
  refine wpAny_bind (wpAny_holding (PySem.W.kun_collect (s := { s with heap := h1 }) (T := "tuple_iterator") (.inr (.inr (.inr rfl))) (Walks.tuple (A := A.in1) hh s.heap.objs.size l hlt items) (fun j u st => st.1.typeIs) (k := i) hi ⟨hit, hl1⟩ (Heap.lt_size hoi) (Heap.lt_size hol) (fun h2 tk hk => ?_) hz))
  have he : ∀ b o, s.heap.get? b = some o → h2.get? b = some o := fun b o e => hk b o (Nat.ne_of_lt (Heap.lt_size e)) (hs.extBut b o (Nat.ne_of_lt (Heap.lt_size e)) (Heap.get?_push_of_some _ e))
  have h0 : i + 1 - 1 - i = 0 := by omega
  show wpAny _ _ (if (items.toList.drop i).length < i + 1 - 1 - i then _ else newList ((items.toList.drop i).take ((items.toList.drop i).length - (i + 1 - 1 - i))) >>= fun d => pure (items.toList.take i ++ [d] ++ (items.toList.drop i).drop ((items.toList.drop i).length - (i + 1 - 1 - i)))) _ _ _
  rw [h0, if_neg (Nat.not_lt_zero _), Nat.sub_zero, List.take_length, List.drop_length]
  refine wpAny_bind (wpAny_newList ?_ (by rw [List.length_drop, Array.length_toList]; omega))
  refine wpAny_pure ?_
  rw [List.append_nil]
  exact h h2 tk he
end
section
variable {X : Cx} {pos : Pos}
def gStar (K : PySem.W.Frag) (n : Nat) (t : TGs) : TG := fun v σ H Q => ∃ a xs, v = .ref a ∧ SqT K H a xs ∧ n ≤ xs.length ∧ ∀ p, H p = none → t (xs.take n ++ [.ref p]) σ (upd H p (.lst (xs.drop n))) Q
theorem pg_star {es : List Expr} {k : Nat} {t : TGs} {n : Nat} (hc : X.calm = true) (h : PGs X es t) (hn : (assignEach es X.env).length = n + 1) (hst : (assignEach es X.env).findIdx? (·.1) = some n) : PG X (.Tuple es k pos) (gStar X.K n t) := by
  refine ⟨fun pins s σ H v u Q I r hw => ?_⟩
  obtain ⟨a, xs, rfl, hq, hl, hw⟩ := hw
  obtain rfl : u = Value.ref a := r
  obtain ⟨its, rv, ht, hz⟩ := I.tuple hq
  have hlen : its.toArray.size = xs.length := by rw [List.size_toArray, rv.length]
  rw [PyProof.Rows.assign_Tuple]
  refine wpAny_bind (wpAny_standAt ?_)
  unfold unpack
  rw [hn, hst]
  refine wpAny_bind (wpAny_holding (unpack_star ht (I.ok.hd hc) (by rw [hlen]; exact hl) (by rw [hlen]; exact hz) fun h2 tk hk => ?_))
  have I1 : L2.Inv X pins σ H { s with heap := h2, toks := tk } := I.kept (t' := tk) hk
  have rv' : Vals (xs.take n) (its.take n) := rv.take n
  have I2 : L2.Inv X pins σ (upd H h2.objs.size (.lst (xs.drop n))) { s with heap := h2.push (seqObj "list" (its.toArray.toList.drop n).toArray 0), toks := tk } :=
    I1.laid (t' := tk) (fun b u e => Heap.get?_push_of_some _ e) (Nat.le_refl _) ⟨by rw [List.length_drop]; omega, its.drop n, 0, rv.drop n, Heap.get?_push_size _ rfl⟩
  exact h.run pins _ σ _ _ _ Q I2 (rv'.append (.cons (show RelV (.ref h2.objs.size) (.ref h2.objs.size) from rfl) .nil)) (hw _ (I1.hok.fresh (Nat.le_refl _)))
end
section
variable {W : Wd} {C : Cal} {ι ι' ι1 ι2 : List Addr} {S S' S0 S1 S2 : Sto} {H H' H1 H2 : Hp} {e e' : En} {σ σ' : L2.St} {X : Cx} {a b c : Expr} {ca cb cc : CE} {pos p : Pos} {es : List Expr} {cs : CEs}
theorem star_each {t : Expr} {sp : Pos} {env : Env} : ∀ {bs : List Expr}, bs.all notStar = true → (assignEach (bs ++ [.Starred t sp]) env).map (·.2) = (assignEach bs env).map (·.2) ++ [assign t env] ∧ (assignEach (bs ++ [.Starred t sp]) env).length = bs.length + 1 ∧ (assignEach (bs ++ [.Starred t sp]) env).findIdx? (·.1) = some bs.length
  | [], _ => ⟨rfl, rfl, rfl⟩
  | b :: bs, h => by
    rw [List.all_cons, Bool.and_eq_true] at h
    obtain ⟨h1, h2, h3⟩ := star_each (t := t) (sp := sp) (env := env) h.2
    have e1 : assignEach (b :: (bs ++ [.Starred t sp])) env = (false, assign b env) :: assignEach (bs ++ [.Starred t sp]) env := by
      cases b <;> first
        | rfl
        | cases h.1
    have e2 : assignEach (b :: bs) env = (false, assign b env) :: assignEach bs env := by
      cases b <;> first
        | rfl
        | cases h.1
    refine ⟨?_, ?_, ?_⟩
    · rw [List.cons_append, e1, e2, List.map_cons, h1]
      rfl
    · rw [List.cons_append, e1, List.length_cons, h2]
      rfl
    · rw [List.cons_append, e1, List.findIdx?_cons, h3]
      rfl
theorem names_nostar {N : List Str} {sc : Scope} : ∀ {es : List Expr} {is : List Nat}, oMap (nmOf N sc) es = some is → es.all notStar = true ∧ es.length = is.length
  | [], _, h => by
    cases h
    exact ⟨rfl, rfl⟩
  | ex :: es, _, h => by
    simp only [oMap] at h
    split at h
    · rename_i i is hi his
      cases h
      obtain ⟨x, p, rfl, _, _⟩ := nm_at hi
      obtain ⟨h1, h2⟩ := names_nostar his
      exact ⟨by rw [List.all_cons, h1]; rfl, by rw [List.length_cons, h2]; rfl⟩
    · cases h
theorem pgs_snoc {N : List Str} {sc : Scope} (hN : X.N = N) (hd : N.Nodup) {sp : Pos} {j : Nat} {t : Expr} (hj : nmOf N sc t = some j) (hsj : ∀ x p, t = .Name x p → StB X x) : ∀ {bs : List Expr} {is : List Nat}, oMap (nmOf N sc) bs = some is → (∀ x ∈ (bs.filterMap fun e => match e with | .Name x _ => some x | _ => none), StB X x) → PGs X (bs ++ [.Starred t sp]) (gNs (is ++ [j]))
  | [], _, h, _ => by
    cases h
    obtain ⟨x, p, rfl, hx, hn⟩ := nm_at hj
    have h1 := hsj x p rfl
    have q : PGs X [.Name x p] (gNs [j]) := pgs_cons (pg_name (by rw [hN]; exact hd) (by rw [hN]; exact hn) h1.loc h1.fn) pgs_nil
    exact ⟨fun pins s σ H vs us Q I r h => q.run pins s σ H vs us Q I r h⟩
  | ex :: bs, _, h, hs => by
    simp only [oMap] at h
    split at h
    · rename_i i is hi his
      cases h
      obtain ⟨x, p, rfl, hx, hn⟩ := nm_at hi
      have h1 := hs x (by rw [List.filterMap_cons]; exact List.mem_cons_self)
      have ih := pgs_snoc hN hd hj hsj (sp := sp) his fun y hy => hs y (by rw [List.filterMap_cons]; exact List.mem_cons_of_mem _ hy)
      exact pgs_cons (pg_name (by rw [hN]; exact hd) (by rw [hN]; exact hn) h1.loc h1.fn) ih rfl
    · cases h
theorem os_star {N : List Str} {sc : Scope} (hN : X.N = N) (hd : N.Nodup) (hc : X.calm = true) (hK : X.K = W.K) {sp tp : Pos} {kt j : Nat} {t : Expr} {bs : List Expr} {is : List Nat} (hi : oMap (nmOf N sc) bs = some is) (hj : nmOf N sc t = some j) (hsj : ∀ x p, t = .Name x p → StB X x)
    (hs : ∀ x ∈ (bs.filterMap fun e => match e with | .Name x _ => some x | _ => none), StB X x) (ha : PE X a (rdE W C ca)) (hl : isLc a = false) (ht : isTupX a = false) : PS X (.Assign [.Tuple (bs ++ [.Starred t sp]) kt tp] a pos) (rdS W C (.setStar is j ca)) := by
  obtain ⟨n1, n2⟩ := names_nostar hi
  obtain ⟨e1, e2, e3⟩ := star_each (t := t) (sp := sp) (env := X.env) n1
  have h1 : swapsWithSole [.Tuple (bs ++ [.Starred t sp]) kt tp] a pos.line X.env = pure false := by
    cases a <;> first
      | rfl
      | cases hl
  have h2 : swappedStores [.Tuple (bs ++ [.Starred t sp]) kt tp] a X.env = pure none := by
    cases a <;> first
      | rfl
      | cases ht
  refine (ps_asg ha (pg_star hc (pgs_snoc hN hd hj hsj hi hs) e2 e3) h1 h2).w fun D σ H ⟨ι, S, e, fl, e', S', R, Ve, ev, g⟩ => ?_
  simp only [exS] at ev
  obtain ⟨d, S1, f1, ev⟩ := bnS_some ev
  split at ev
  · rename_i xs
    split at ev
    · rename_i hw
      cases ev
      refine rdE_then R Ve f1 fun ι1 H1 v E1 R1 hv V1 => ?_
      obtain ⟨q, vs, rfl, hq, hz⟩ := hv
      refine ⟨q, vs, rfl, by rw [hK]; exact hq, by rw [← DVs.length hz, n2]; exact hw.1, fun p hp => ?_⟩
      have hi2 : ∀ (n : Nat) b, ι1[n]? = some b → (ι1 ++ [p])[n]? = some b := fun n b h => by
        rw [List.getElem?_append_left (List.getElem?_eq_some_iff.mp h).1]
        exact h
      have hk : ∀ b u, H1 b = some u → upd H1 p (.lst (vs.drop bs.length)) b = some u := fun b u e => by
        rw [upd_ne (ne_of_none e hp)]
        exact e
      have hz2 : DVs W (ι1 ++ [p]) (upd H1 p (.lst (vs.drop bs.length))) xs vs := DVs.gen hi2 (fun a o h _ => hk a o h) _ _ hz
      obtain ⟨R2, E2⟩ := Rep.lay (u := .lst (xs.drop is.length)) R1 hp hk ⟨vs.drop bs.length, upd_same, by rw [n2]; exact DVs.drop _ (n2 ▸ hz2)⟩
      have hp2 : (ι1 ++ [p])[S1.length]? = some p := by
        rw [← R1.len, List.getElem?_append_right (Nat.le_refl _)]
        simp
      have hr : DV W (ι1 ++ [p]) (upd H1 p (.lst (vs.drop bs.length))) (.ref S1.length) (.ref p) := ⟨p, rfl, hp2⟩
      refine gns_ok (xs := xs.take is.length ++ [.ref S1.length]) (DVs.append (by rw [n2]; exact DVs.take _ (n2 ▸ hz2)) ⟨.ref p, [], rfl, hr, rfl⟩) ?_ (V1.mono E2 R1) fun σ' V' _ _ => (g.thru E1 R1) _ _ _ E2 R2 V'
      simp only [List.length_append, List.length_take, List.length_singleton]
      have := hw.1
      omega
    · cases ev
  · cases ev
def gLst (K : PySem.W.Frag) (n : Nat) (t : TGs) : TG := fun v σ H Q => ∃ a xs, v = .ref a ∧ SqL K H a xs ∧ xs.length = n ∧ t xs σ H Q
theorem pg_lst {es : List Expr} {k : Nat} {t : TGs} {n : Nat} (hc : X.calm = true) (h : PGs X es t) (hn : (assignEach es X.env).length = n) (hst : (assignEach es X.env).findIdx? (·.1) = none) : PG X (.Tuple es k pos) (gLst X.K n t) := by
  refine ⟨fun pins s σ H v u Q I r hw => ?_⟩
  obtain ⟨a, xs, rfl, hq, hl, hw⟩ := hw
  obtain rfl : u = Value.ref a := r
  obtain ⟨its, rv, hli, hz⟩ := I.list hq
  rw [PyProof.Rows.assign_Tuple]
  refine wpAny_bind (wpAny_standAt ?_)
  unfold unpack
  rw [hst]
  have e : (assignEach es X.env).length = its.toArray.size := by
    rw [List.size_toArray, ← rv.length, hl, hn]
  rw [e]
  refine wpAny_bind (wpAny_holding (PySem.W.kun_itemsOf (I.ok.hd hc) hli.isList fun h' hx => ?_))
  have I1 : L2.Inv X pins σ H { s with heap := h' } := I.kept (t' := s.toks) fun b o e => hx b o (Nat.ne_of_lt (Heap.lt_size e)) e
  exact h.run pins _ σ H xs _ Q I1 (by simpa using rv) hw
theorem os_lst {N : List Str} {sc : Scope} (hN : X.N = N) (hd : N.Nodup) (hc : X.calm = true) (hK : X.K = W.K) {tp : Pos} {kt : Nat} {bs : List Expr} {is : List Nat} (hi : oMap (nmOf N sc) bs = some is) (hs : ∀ x ∈ (bs.filterMap fun e => match e with | .Name x _ => some x | _ => none), StB X x) (ha : PE X a (rdE W C ca)) (ht : isTupX a = false) : PS X (.Assign [.Tuple bs kt tp] a pos) (rdS W C (.setLst is ca)) := by
  obtain ⟨q1, q2, q3⟩ := ok_names hN hd hi hs
  have h1 : swapsWithSole [.Tuple bs kt tp] a pos.line X.env = pure false := by
    cases a <;> rfl
  have h2 : swappedStores [.Tuple bs kt tp] a X.env = pure none := by
    cases a <;> first
      | rfl
      | cases ht
  refine (ps_asg ha (pg_lst hc q1 q2 q3) h1 h2).w fun D σ H ⟨ι, S, e, fl, e', S', R, Ve, ev, g⟩ => ?_
  simp only [exS] at ev
  obtain ⟨d, S1, f1, ev⟩ := bnS_some ev
  split at ev
  · rename_i xs hx
    split at ev
    · rename_i hw
      cases ev
      refine rdE_then R Ve f1 fun ι1 H1 v E1 R1 hv V1 => ?_
      obtain ⟨q, vs, rfl, hq, hz⟩ := lst_sq R1 hx hv
      exact ⟨q, vs, rfl, by rw [hK]; exact hq, by rw [← DVs.length hz]; exact hw, gns_ok hz hw V1 fun σ' V' _ _ => (g.thru E1 R1) _ _ _ .refl R1 V'⟩
    · cases ev
  · cases ev
end
end PC
end
section
set_option Elab.async false
set_option linter.all false
set_option maxRecDepth 100000
set_option maxHeartbeats 1000000
/-! PC: assignments, bodies. -/
namespace PC
open PySem L2
/-- what holds where a statement of a def stands -/
structure CxF (W : Wd) (Γ : Gam) (N : List Str) (C : Cal) (sc : Scope) (X : Cx) : Prop extends CxS W Γ N C sc X where
  hp : PassesOwn (model X.prog X.w) X.A X.env X.xe
  st : ∀ x, locB sc x = true → StB X x
section
variable {W : Wd} {Γ : Gam} {N : List Str} {C : Cal} {sc : Scope} {X : Cx} {e : Expr} {c : CE} {pos : Pos} {m : Nat}
theorem ok_e (cx : CxF W Γ N C sc X) (h : cmE Γ N m sc e = some c) : PE X e (rdE W C c) := (cmE_ok m _ _ _ _ cx.toCxS h).1
theorem sw_none {a : Expr} {t : Option Expr} {l : Nat} {env : Env} (h : isLc a = false) : swapsWith a t l env = pure false := by
  cases a <;> first
    | rfl
    | cases h
theorem altK_no {it : Expr} {as : CEs} {a : CE} {b : Nat → CE} (h : noAlt (altK Γ it as a b) = true) : altK Γ it as a b = a := by
  unfold altK at *
  split at h
  · split at h
    · cases h
    · rename_i hx
      rw [if_neg hx]
  · rfl
theorem os_lc {x : Str} {px lp : Pos} {i : Nat} {elt : Expr} {gs : List Comprehension} {scope : Scope} (cx : CxF W Γ N C sc X) (hi : N[i]? = some x) (hx : sc.names.lookup x = some .local) (hl : (px.line == lp.line) = true) (ha : (scope.names.any fun (n, k) => n == x && (k == .local || k == .cell)) = false)
    (hna : noAlt c = true) (h : cmE Γ N m sc (.ListComp elt gs scope lp) = some c) : PS X (.Assign [.Name x px] (.ListComp elt gs scope lp) pos) (rdS W C (.set (.name i) c)) := by
  cases m with
  | zero => cases h
  | succ m =>
    have hr := cmE_ok (W := W) (C := C) (Γ := Γ) (N := N) m
    have h' : cLc Γ N sc (cmE Γ N m sc) (cmE Γ N m (relS scope sc)) elt gs scope = some c := h
    unfold cLc at h'
    split at h'
    · rename_i tg it ifs k
      split at h'
      · rename_i t as elt' ifs' h1 h2 h3 h4
        split at h'
        · rename_i hw
          cases h'
          rw [altK_no hna]
          simp only [Bool.and_eq_true, Bool.not_eq_true', decide_eq_true_eq, List.all_eq_true] at hw
          obtain ⟨⟨⟨⟨⟨⟨rfl, w1⟩, w2⟩, w3⟩, w4⟩, w5⟩, w6⟩ := hw
          have ok := blkOk_by w1
          refine ⟨fun pins s σ H D I q => ?_⟩
          have key := (ps_setLc (spos := pos) (py := px) (pos := lp) (i := i) (y := x) cx.calm (by rw [cx.hN]; exact cx.nd) (by rw [cx.hN]; exact hi) (by rw [cx.hsc]; exact hx) (sw_true I.ok.kind (by rw [cx.hsc]; exact hx) hl ha) (src_ok (tg := tg) hr cx.toCxS h2 w4) (by rw [cx.hN, cx.hsc]; exact ok) (g := rdG W t) (tt := rdTs W C ifs') (te := rdE W C elt') (ifs := ifs) (elt := elt)
            (fun s H A cl fp => by
              refine ok_tg (sc := scope) cx.hN cx.nd cx.calm cx.hK h1 fun x hx => ?_
              have hx' := w6
              unfold tgRel at hx'
              rw [List.all_eq_true] at hx'
              have q := hx' x hx
              have cb := cx.toCxS.blk s H scope A cl fp
              simp only [Bool.or_eq_true, Bool.and_eq_true, decide_eq_true_eq] at q
              rcases q with q | ⟨q, q2⟩
              · exact ⟨.inl (by rw [cb.hsc]; exact q), .inr (by rw [cb.hsc]; exact q)⟩
              · exact ⟨.inr (by rw [cb.hsc]; exact q), .inl (by show (scope.names.lookup x == some .cell) = true; rw [q2]; rfl)⟩)
            (fun s H A cl fp => by
              rcases ifs with _ | ⟨i1, _ | ⟨i2, ir⟩⟩
              · cases h4
                exact rdTs_nil
              · obtain ⟨ci, h5, rfl, h6⟩ := one_cEs h4
                exact rdTs_one (hr _ _ _ _ (cx.toCxS.blk s H scope A cl fp) h5).2.1
              · simp at w2)
            (fun s H A cl fp => (hr _ _ _ _ (cx.toCxS.blk s H scope A cl fp) h3).1) (fold_of w3))
          refine key.run pins s σ H D I ?_
          have z := rd_asg q
          refine lc_ok (own := (ownOf N scope).map (·.2)) (fun i hi => w5 i hi) σ H _ ?_
          obtain ⟨ι, S, e0, d, S', R, Ve, ev, g⟩ := z
          refine ⟨ι, S, e0, d, S', R, Ve, ev, fun ι' H' v E R' hv => ?_⟩
          obtain ⟨ι2, S2, e2, d2, e3, R2, V2, hv2, hp, k⟩ := g ι' H' v E R' hv
          cases hp
          exact k _ (V2.set hv2) (List.length_set ..) fun j hj => List.getElem?_set_ne (by rintro rfl; exact hj List.mem_cons_self)
        · cases h'
      · cases h'
    · cases h'
theorem cAsN_ok {x : Str} {px : Pos} {cs : CS} (cx : CxF W Γ N C sc X) (h : cAsN N sc (cmE Γ N m sc) x px e pos = some cs) : PS X (.Assign [.Name x px] e pos) (rdS W C cs) := by
  unfold cAsN at h
  split at h
  · rename_i i e' hi he
    obtain ⟨x', p', ex, hx, hn⟩ := nm_at hi
    cases ex
    split at h
    · rename_i scope lp
      split at h
      · rename_i hw
        cases h
        simp only [Bool.and_eq_true, decide_eq_true_eq, Bool.not_eq_true'] at hw
        exact os_lc cx hn hw.1.1.1 hw.1.1.2 hw.1.2 hw.2 he
      · cases h
    · split at h
      · cases h
      · rename_i hl
        cases h
        have hl : isLc e = false := by simpa using hl
        have hs := cx.st _ hx
        refine (ps_set (by rw [cx.hN]; exact cx.nd) (by rw [cx.hN]; exact hn) hs.loc (ok_e cx he) (sw_none hl) hs.fn).w fun D σ H q => ?_
        obtain ⟨ι, S, e0, d, S', R, Ve, ev, g⟩ := rd_asg q
        refine ⟨ι, S, e0, d, S', R, Ve, ev, fun ι' H' v E R' hv => ?_⟩
        obtain ⟨ι2, S2, e2, d2, e3, R2, V2, hv2, hp, k⟩ := g ι' H' v E R' hv
        cases hp
        exact k _ (V2.set hv2) (List.length_set ..) fun j hj => List.getElem?_set_ne (by rintro rfl; exact hj List.mem_cons_self)
  · cases h
theorem tupE_of {vs : List Expr} {k : Nat} {p : Pos} (cx : CxF W Γ N C sc X) (h : cmE Γ N m sc (.Tuple vs k p) = some c) : ∃ cs, c = .tupE cs ∧ PA X vs (rdA W C cs) := by
  cases m with
  | zero => cases h
  | succ m =>
    have h' : (cEs (cmE Γ N m sc) vs).map CE.tupE = some c := h
    obtain ⟨cs, h1, rfl⟩ := Option.map_eq_some_iff.mp h'
    exact ⟨cs, rfl, (cEs_ok (cmE_ok m) cx.toCxS h1).1⟩
theorem names_of {N : List Str} {sc : Scope} : ∀ {es : List Expr} {is : List Nat}, oMap (nmOf N sc) es = some is → ∃ xs : List (Str × Pos), es = xs.map (fun q => .Name q.1 q.2) ∧ (∀ q ∈ xs, locB sc q.1 = true) ∧ xs.length = is.length ∧ ∀ (j : Nat) (q : Str × Pos) (i : Nat), xs[j]? = some q → is[j]? = some i → N[i]? = some q.1
  | [], _, h => by cases h; exact ⟨[], rfl, fun _ z => (by cases z), rfl, fun j q i z => by simp at z⟩
  | ex :: es, _, h => by
    simp only [oMap] at h
    split at h
    · rename_i i is hi his
      cases h
      obtain ⟨x, p, rfl, hx, hn⟩ := nm_at hi
      obtain ⟨xs, rfl, h1, h2, h3⟩ := names_of his
      refine ⟨(x, p) :: xs, rfl, fun q hq => ?_, by rw [List.length_cons, List.length_cons, h2], fun j q i' z1 z2 => ?_⟩
      · rcases List.mem_cons.mp hq with rfl | hq
        · exact hx
        · exact h1 q hq
      · cases j with
        | zero =>
          simp at z1 z2
          subst z1 z2
          exact hn
        | succ j => exact h3 j q i' (by simpa using z1) (by simpa using z2)
    · cases h
/-- stores that are not swapped -/
theorem sw_no {ts vs : List Expr} {kt k2 : Nat} {pt p2 : Pos} {env : Env} (h : (ts.all fun e => match e with | .Name x _ => decide (env.scope.names.lookup x = some .local) | _ => false) = false ∨ (¬ ts.length = 2 ∧ ¬ ts.length = 3)) : swappedStores [.Tuple ts kt pt] (.Tuple vs k2 p2) env = pure none := by
  unfold swappedStores
  simp only
  split
  · rfl
  · rename_i h1
    split
    · rfl
    · rcases h with h | h
      · have : ∀ (l : Nat) (ts : List Expr), (ts.all fun e => match e with | .Name x _ => decide (env.scope.names.lookup x = some .local) | _ => false) = false → (ts.filterMap fun | .Name id pos => if env.kindOf id == some .local && pos.line == l then some id else none | _ => none).length < ts.length := by
          intro l ts
          induction ts with
          | nil => intro h; cases h
          | cons a r ih =>
            intro h
            rw [List.all_cons, Bool.and_eq_false_iff] at h
            have le : ∀ r : List Expr, (r.filterMap fun | .Name id pos => if env.kindOf id == some .local && pos.line == l then some id else none | _ => none).length ≤ r.length := fun r => List.length_filterMap_le _ _
            rw [List.filterMap_cons]
            rcases h with h | h
            · have e0 : (match a with | .Name id pos => if env.kindOf id == some .local && pos.line == l then some id else none | _ => none) = none := by
                cases a with
                | Name id p =>
                  simp only [decide_eq_false_iff_not] at h
                  simp only
                  rw [if_neg]
                  simp only [Bool.and_eq_true, beq_iff_eq, not_and]
                  intro z
                  exact absurd z h
                | _ => rfl
              rw [e0]
              exact Nat.lt_succ_of_le (le r)
            · split
              · exact Nat.lt_succ_of_lt (ih h)
              · exact Nat.succ_lt_succ (ih h)
        have q := this ((ts.head?.map (·.pos.line)).getD 0) ts h
        rw [if_pos]
        simp only [Bool.or_eq_true, bne_iff_ne, ne_eq]
        exact .inl (Nat.ne_of_lt q)
      · simp only [Bool.or_eq_true, Bool.not_eq_true', Bool.or_eq_false_iff, beq_eq_false_iff_ne] at h1
        exact absurd (.inl (.inl ⟨h.1, h.2⟩)) h1
theorem nms_map : ∀ xs : List (Str × Pos), nmsOf (xs.map fun q => .Name q.1 q.2) = xs.map (·.1)
  | [] => rfl
  | q :: xs => by
    show q.1 :: nmsOf (xs.map fun q => .Name q.1 q.2) = _
    rw [nms_map xs]
    rfl
theorem sw_fold {ts vs : List Expr} {kt k2 : Nat} {pt p2 : Pos} {env : Env} (h : vs.all (foldedForSure 8) = true) : swappedStores [.Tuple ts kt pt] (.Tuple vs k2 p2) env = pure none := by
  unfold swappedStores
  simp only [h]
  split
  · rfl
  · split
    · rfl
    · split
      · rfl
      · rfl
theorem sw_yes {xs : List (Str × Pos)} {vs : List Expr} {kt k2 : Nat} {pt p2 : Pos} {env : Env} (hl : xs.length = 2 ∨ xs.length = 3) (hv : vs.length = xs.length) (hk : env.blockKind = .function) (hloc : ∀ q ∈ xs, env.kindOf q.1 = some .local)
    (hline : ∀ q ∈ xs, q.2.line = (((xs.map fun q => Expr.Name q.1 q.2).head?.map (·.pos.line)).getD 0)) (hnd : (xs.map (·.1)).eraseDups.length = xs.length) (hstar : vs.all notStar = true) (h1 : vs.all (foldedForSure 8) = false) (h2 : vs.all (constantsAlone 8) = false) :
    swappedStores [.Tuple (xs.map fun q => .Name q.1 q.2) kt pt] (.Tuple vs k2 p2) env = pure (some (xs.map (·.1))) := by
  have hf : ∀ (l : Nat) (ys : List (Str × Pos)), (∀ q ∈ ys, env.kindOf q.1 = some .local) → (∀ q ∈ ys, q.2.line = l) → ((ys.map fun q => Expr.Name q.1 q.2).filterMap fun | .Name id pos => if env.kindOf id == some .local && pos.line == l then some id else none | _ => none) = ys.map (·.1) := by
    intro l ys
    induction ys with
    | nil => intro _ _; rfl
    | cons q ys ih =>
      intro a b
      rw [List.map_cons, List.filterMap_cons]
      simp only [a q List.mem_cons_self, b q List.mem_cons_self, beq_self_eq_true, Bool.and_self, if_true]
      rw [ih (fun q hq => a q (List.mem_cons_of_mem _ hq)) fun q hq => b q (List.mem_cons_of_mem _ hq)]
      rfl
  have hs : (vs.any fun | .Starred .. => true | _ => false) = false := by
    rw [List.any_eq_false]
    intro v hv
    have := List.all_eq_true.mp hstar v hv
    cases v <;> first
      | (cases this; done)
      | simp
  unfold swappedStores
  simp only
  rw [if_neg (fun z => by
    rw [List.length_map, hk, hv] at z
    rcases hl with h | h <;> rw [h] at z <;> exact absurd z (by decide)), if_neg (fun z => by
    have z' : (vs.any fun | .Starred .. => true | _ => false) = true := z
    rw [hs] at z'
    cases z')]
  generalize hnm : List.filterMap _ _ = names
  have e : names = xs.map (·.1) := hnm.symm.trans (hf _ xs hloc hline)
  subst e
  rw [if_neg (by rw [List.length_map, List.length_map, hnd]; simp), h1, h2]
  simp
theorem lcl_of {ts : List Expr} {env : Env} (h : ts.all (lcl env.scope) = false) : (ts.all fun e => match e with | .Name x _ => decide (env.scope.names.lookup x = some .local) | _ => false) = false := by
  have e : (fun e : Expr => match e with | .Name x _ => decide (env.scope.names.lookup x = some .local) | _ => false) = lcl env.scope := by
    funext e
    cases e <;> rfl
  rw [e]
  exact h
theorem cAsT_ok {ts : List Expr} {kt : Nat} {pt : Pos} {cs : CS} (cx : CxF W Γ N C sc X) (h : cAsT N sc (cmE Γ N m sc) ts e = some cs) : PS X (.Assign [.Tuple ts kt pt] e pos) (rdS W C cs) := by
  unfold cAsT at h
  split at h
  · rename_i is e' hi he
    have htg : tgOf N sc (.Tuple ts kt pt) = some (.tup is) := by
      show (oMap (nmOf N sc) ts).map Tg.tup = _
      rw [hi]
      rfl
    have hst : ∀ x ∈ tgNms (.Tuple ts kt pt), StB X x := fun x hx => by
      obtain ⟨xs, rfl, q1, _⟩ := names_of hi
      have hx' : x ∈ nmsOf (xs.map fun q => .Name q.1 q.2) := hx
      rw [nms_map] at hx'
      obtain ⟨q, hq, rfl⟩ := List.mem_map.mp hx'
      exact cx.st _ (q1 q hq)
    have plain : swappedStores [.Tuple ts kt pt] e X.env = pure none → isLc e = false → PS X (.Assign [.Tuple ts kt pt] e pos) (rdS W C (.set (.tup is) e')) := fun hw hl =>
      (ps_asg (ok_e cx he) (ok_tg cx.hN cx.nd cx.calm cx.hK htg hst) (sw_none (t := some (.Tuple ts kt pt)) (l := pos.line) (env := X.env) hl) hw).w fun D σ H q => rd_asg q
    split at h
    · rename_i vs k2 p2
      obtain ⟨cs', rfl, hpa⟩ := tupE_of cx he
      split at h
      · rename_i hw
        cases h
        simp only [Bool.and_eq_true, Bool.or_eq_true, decide_eq_true_eq, Bool.not_eq_true', List.all_eq_true] at hw
        obtain ⟨⟨⟨⟨⟨⟨⟨⟨w1, w2⟩, w3⟩, w4⟩, w5⟩, w6⟩, w7⟩, w8⟩, w9⟩ := hw
        obtain ⟨xs, rfl, q1, q2, q3⟩ := names_of hi
        rw [nms_map, List.length_map] at w9
        rw [List.length_map] at w2
        have hlocal : ∀ q ∈ xs, sc.names.lookup q.1 = some .local := fun q hq => by
          have := w3 (.Name q.1 q.2) (List.mem_map.mpr ⟨q, hq, rfl⟩)
          exact of_decide_eq_true this
        have hline : ∀ q ∈ xs, q.2.line = (((xs.map fun q => Expr.Name q.1 q.2).head?.map (·.pos.line)).getD 0) := fun q hq => by
          have := w5 (.Name q.1 q.2) (List.mem_map.mpr ⟨q, hq, rfl⟩)
          exact beq_iff_eq.mp this
        have hw1 : vs.all (foldedForSure 8) = false := by
          cases hh : vs.all (foldedForSure 8) with
          | false => rfl
          | true => exact absurd (List.all_eq_true.mp hh) (by simpa using w6)
        have hw2 : vs.all (constantsAlone 8) = false := by
          cases hh : vs.all (constantsAlone 8) with
          | false => rfl
          | true => exact absurd (List.all_eq_true.mp hh) (by simpa using w7)
        have hsw : ∀ (env : Env), env.scope = sc → env.scope.kind = .function → swappedStores [.Tuple (xs.map fun q => .Name q.1 q.2) kt pt] (.Tuple vs k2 p2) env = pure (some (xs.map (·.1))) := fun env e1 e2 =>
          sw_yes (by rw [← w2]; exact w1) w2 (by unfold Env.blockKind; rw [e2]; rfl) (fun q hq => by show env.scope.names.lookup q.1 = _; rw [e1]; exact hlocal q hq) hline w9 (List.all_eq_true.mpr w4) hw1 hw2
        refine ⟨fun pins s σ H D I q => ?_⟩
        obtain ⟨ι, S, e0, f, e3, S', R, Ve, ev, g⟩ := q
        simp only [exS] at ev
        obtain ⟨d, S1, ev1, ev⟩ := bnS_some ev
        obtain ⟨e2, hp, hz⟩ := Option.map_eq_some_iff.mp ev
        cases hz
        simp only [evE] at ev1
        obtain ⟨ds, S2, ev1, ev2⟩ := bnd_some ev1
        split at ev2
        · cases ev2
          unfold putT at hp
          simp only at hp
          split at hp
          · rename_i hln
            cases hp
            have sw := hsw X.env cx.hsc I.ok.kind
            have hN : X.N.Nodup := by rw [cx.hN]; exact cx.nd
            rcases (by rw [← w2]; exact w1 : xs.length = 2 ∨ xs.length = 3) with hl | hl
            · rcases xs with _ | ⟨a, _ | ⟨b, _ | ⟨b2, xr⟩⟩⟩ <;> simp at hl
              rcases is with _ | ⟨i, _ | ⟨j, _ | ⟨j2, ir⟩⟩⟩ <;> simp at q2
              rcases vs with _ | ⟨v1, _ | ⟨v2, _ | ⟨v3, vr⟩⟩⟩ <;> simp at w2
              rcases ds with _ | ⟨d1, _ | ⟨d2, _ | ⟨d3, dr⟩⟩⟩ <;> simp at hln
              have hij : i ≠ j := by
                simp at w8
                exact w8
              refine (ps_par cx.calm hN (by rw [cx.hN]; exact q3 0 a i rfl rfl) (by rw [cx.hN]; exact q3 1 b j rfl rfl) hij (by rw [cx.hsc]; exact hlocal a (by simp)) (by rw [cx.hsc]; exact hlocal b (by simp)) hpa sw).run pins s σ H D I ?_
              refine rdA_then R Ve ev1 fun ι1 H1 vs E1 R1 hv V1 => ?_
              obtain ⟨x1, x2, rfl, h1, h2⟩ := two_of hv
              exact ⟨x1, x2, rfl, g ι1 H1 _ E1 R1 ((V1.set h1).set h2)⟩
            · rcases xs with _ | ⟨a, _ | ⟨b, _ | ⟨b2, _ | ⟨b3, xr⟩⟩⟩⟩ <;> simp at hl
              rcases is with _ | ⟨i, _ | ⟨j, _ | ⟨l, _ | ⟨j2, ir⟩⟩⟩⟩ <;> simp at q2
              rcases vs with _ | ⟨v1, _ | ⟨v2, _ | ⟨v3, _ | ⟨v4, vr⟩⟩⟩⟩ <;> simp at w2
              rcases ds with _ | ⟨d1, _ | ⟨d2, _ | ⟨d3, _ | ⟨d4, dr⟩⟩⟩⟩ <;> simp at hln
              simp at w8
              refine (ps_par3 cx.calm hN (by rw [cx.hN]; exact q3 0 a i rfl rfl) (by rw [cx.hN]; exact q3 1 b j rfl rfl) (by rw [cx.hN]; exact q3 2 b2 l rfl rfl) w8.1.1 w8.1.2 w8.2 (by rw [cx.hsc]; exact hlocal a (by simp)) (by rw [cx.hsc]; exact hlocal b (by simp)) (by rw [cx.hsc]; exact hlocal b2 (by simp)) hpa sw).run pins s σ H D I ?_
              refine rdA_then R Ve ev1 fun ι1 H1 vs E1 R1 hv V1 => ?_
              obtain ⟨x1, r1, rfl, h1, hv⟩ := hv
              obtain ⟨x2, x3, rfl, h2, h3⟩ := two_of hv
              exact ⟨x1, x2, x3, rfl, g ι1 H1 _ E1 R1 (((V1.set h1).set h2).set h3)⟩
          · cases hp
        · cases ev2
      · split at h
        · rename_i hw
          cases h
          refine plain (sw_no ?_) rfl
          simp only [Bool.or_eq_true, Bool.not_eq_true', Bool.or_eq_false_iff, decide_eq_false_iff_not] at hw
          rcases hw with hw | hw
          · exact .inl (lcl_of (by rw [cx.hsc]; exact hw))
          · exact .inr hw
        · split at h
          · rename_i hw
            cases h
            exact plain (sw_fold hw) rfl
          · cases h
    · cases h
      refine os_lst cx.hN cx.nd cx.calm cx.hK hi (fun x hx => ?_) (ok_e cx he) rfl
      obtain ⟨xs, e2, q1, _⟩ := names_of hi
      rw [e2] at hx
      have hx' : x ∈ nmsOf (xs.map fun q => .Name q.1 q.2) := hx
      rw [nms_map] at hx'
      obtain ⟨q, hq, rfl⟩ := List.mem_map.mp hx'
      exact cx.st _ (q1 q hq)
    · rename_i hne _
      split at h
      · cases h
      · rename_i hl
        cases h
        refine plain ?_ (by simpa using hl)
        cases e <;> first
          | rfl
          | exact absurd rfl (hne _ _ _)
  · cases h
theorem starOf_some {ts : List Expr} {q : List Expr × Expr} (h : starOf ts = some q) : ∃ sp, ts = q.1 ++ [.Starred q.2 sp] := by
  unfold starOf at h
  split at h
  · rename_i bs t sp hl
    cases h
    exact ⟨sp, last_of hl⟩
  · cases h
theorem cAsStar_ok {ts : List Expr} {kt : Nat} {pt : Pos} {cs : CS} {q : List Expr × Expr} (cx : CxF W Γ N C sc X) (hq : starOf ts = some q) (h : cAsStar N sc (cmE Γ N m sc) q.1 q.2 e = some cs) : PS X (.Assign [.Tuple ts kt pt] e pos) (rdS W C cs) := by
  obtain ⟨sp, rfl⟩ := starOf_some hq
  unfold cAsStar at h
  split at h
  · cases h
  · rename_i hn
    simp only [Bool.or_eq_true, not_or, Bool.not_eq_true] at hn
    split at h
    · rename_i is j e' hi hj he
      cases h
      refine os_star cx.hN cx.nd cx.calm cx.hK hi hj (fun x p e => ?_) (fun x hx => ?_) (ok_e cx he) hn.1 hn.2
      · obtain ⟨x', p', e2, hx, _⟩ := nm_at hj
        rw [e] at e2
        cases e2
        exact cx.st _ hx
      · obtain ⟨xs, e2, q1, _⟩ := names_of hi
        rw [e2] at hx
        have hx' : x ∈ nmsOf (xs.map fun q => .Name q.1 q.2) := hx
        rw [nms_map] at hx'
        obtain ⟨q, hq, rfl⟩ := List.mem_map.mp hx'
        exact cx.st _ (q1 q hq)
    · cases h
theorem cAs_ok {ts : List Expr} {cs : CS} (cx : CxF W Γ N C sc X) (h : cAs Γ N sc (cmE Γ N m sc) ts e pos = some cs) : PS X (.Assign ts e pos) (rdS W C cs) := by
  unfold cAs at h
  split at h
  · split at h
    · exact cAsN_ok cx h
    · split at h
      · rename_i q hq
        exact cAsStar_ok cx hq h
      · exact cAsT_ok cx h
    · split at h
      · cases h
      · rename_i hn
        simp only [Bool.or_eq_true, not_or, Bool.not_eq_true] at hn
        split at h
        · rename_i e' o' i' he ho hi
          cases h
          exact os_setI cx.hK cx.hw (by have := cx.hu; omega) (ok_e cx ho) (ok_e cx hi) (ok_e cx he) hn.1 hn.2
        · cases h
    · split at h
      · cases h
      · rename_i hn
        simp only [Bool.not_eq_true', Bool.not_eq_true, Bool.not_eq_false, decide_eq_true_eq] at hn
        split at h
        · rename_i e' o' he ho
          cases h
          exact os_setA (cx.att _ hn) (ok_e cx ho) (ok_e cx he)
        · cases h
    · cases h
  · cases h
theorem cAug_ok {t : Expr} {op : Operator} {cs : CS} (cx : CxF W Γ N C sc X) (h : cAug Γ N sc (cmE Γ N m sc) t op e = some cs) : PS X (.AugAssign t op e pos) (rdS W C cs) := by
  have hN : X.N.Nodup := by rw [cx.hN]; exact cx.nd
  unfold cAug at h
  split at h
  · split at h
    · rename_i i e' hi he
      cases h
      obtain ⟨x', p', ex, hx, hn⟩ := nm_at hi
      cases ex
      exact os_aug hN (by rw [cx.hN]; exact hn) (cx.st _ hx) (ok_e cx he)
    · cases h
  · split at h
    · rename_i i e' hi he
      cases h
      obtain ⟨x', p', ex, hx, hn⟩ := nm_at hi
      cases ex
      exact os_aug hN (by rw [cx.hN]; exact hn) (cx.st _ hx) (ok_e cx he)
    · cases h
  · split at h
    · rename_i hf
      split at h
      · rename_i o' e' ho he
        cases h
        exact os_augA (cx.att _ (of_decide_eq_true hf)) (ok_e cx ho) (ok_e cx he)
      · cases h
    · cases h
  · cases h
theorem cSs_ok {rs : Stmt → Option CS} (hr : ∀ st cs, rs st = some cs → PS X st (rdS W C cs)) : ∀ {b : List Stmt} {cs : CSs}, cSs rs b = some cs → PSs X b (rdSs W C cs)
  | [], _, h => by cases h; exact os_nil
  | st :: b, _, h => by
    unfold cSs at h
    split at h
    · rename_i x y hx hy
      cases h
      exact os_cons (hr _ _ hx) (cSs_ok hr hy)
    · cases h
theorem stS_ok {rs : Stmt → Option CS} (cx : CxF W Γ N C sc X) (hr : ∀ st cs, rs st = some cs → PS X st (rdS W C cs)) {st : Stmt} {cs : CS} (h : stS Γ N sc (cmE Γ N m sc) rs st = some cs) : PS X st (rdS W C cs) := by
  have ee : ∀ {e c}, cmE Γ N m sc e = some c → PE X e (rdE W C c) := fun h => ok_e cx h
  have et : ∀ {e c}, cmE Γ N m sc e = some c → PT X e (rdT W C c) := fun h => (cmE_ok m _ _ _ _ cx.toCxS h).2.1
  unfold stS at h
  split at h
  · exact cAs_ok cx h
  · exact cAug_ok cx h
  · split at h
    · rename_i x y z hx hy hz
      cases h
      exact os_if (et hx) (cSs_ok hr hy) (cSs_ok hr hz)
    · cases h
  · split at h
    · rename_i ho
      split at h
      · rename_i x y hx hy
        cases h
        rw [List.isEmpty_iff.mp ho]
        exact os_while cx.hp (et hx) (cSs_ok hr hy)
      · cases h
    · cases h
  · split at h
    · rename_i ho
      simp only [Bool.and_eq_true, Bool.not_eq_true', List.isEmpty_iff] at ho
      obtain ⟨⟨rfl, ho⟩, ht⟩ := ho
      split at h
      · rename_i t as b h1 h2 h3
        cases h
        refine os_for cx.hp cx.calm (src_ok (cmE_ok m) cx.toCxS h2 ht) ?_ (cSs_ok hr h3) (fold_of ho)
        unfold tgOf2 at h1
        split at h1
        · rename_i t' h1'
          cases h1
          refine ok_tg cx.hN cx.nd cx.calm cx.hK h1' fun x hx => cx.st x ?_
          unfold tgOf at h1'
          split at h1'
          · obtain ⟨i, hi, _⟩ := Option.map_eq_some_iff.mp h1'
            obtain ⟨x', p', ex, hx', hn⟩ := nm_at hi
            cases ex
            have : x = _ := List.mem_singleton.mp hx
            rw [this]
            exact hx'
          · obtain ⟨is, hi, _⟩ := Option.map_eq_some_iff.mp h1'
            obtain ⟨xs, rfl, q1, _⟩ := names_of hi
            have hx' : x ∈ nmsOf (xs.map fun q => .Name q.1 q.2) := hx
            rw [nms_map] at hx'
            obtain ⟨q, hq, rfl⟩ := List.mem_map.mp hx'
            exact q1 q hq
          · cases h1'
        · exact ok_nest cx.hN cx.nd cx.calm cx.hK h1 fun x hx => cx.st x hx
      · cases h
    · cases h
  · obtain ⟨c, h1, rfl⟩ := Option.map_eq_some_iff.mp h
    exact os_ret (ee h1)
  · cases h; exact os_retN
  · split at h
    · cases h
    · rename_i hl
      obtain ⟨c, h1, rfl⟩ := Option.map_eq_some_iff.mp h
      exact os_expr (ee h1) (sw_none (by simpa using hl))
  · cases h; exact os_pass
  · cases h; exact os_brk
  · cases h; exact os_cnt
  · cases h
theorem cmS_ok (cx : CxF W Γ N C sc X) : ∀ (n : Nat) (st : Stmt) (cs : CS), cmS Γ N m sc n st = some cs → PS X st (rdS W C cs)
  | 0, _, _, h => by cases h
  | n + 1, st, cs, h => stS_ok cx (cmS_ok cx n) h
theorem cmSs_ok (cx : CxF W Γ N C sc X) {n : Nat} {b : List Stmt} {cs : CSs} (h : cmSs Γ N m n sc b = some cs) : PSs X b (rdSs W C cs) := cSs_ok (cmS_ok cx n) h
end
end PC
end
section
set_option Elab.async false
set_option linter.all false
set_option maxRecDepth 100000
set_option maxHeartbeats 1000000
/-! PC: defs. -/
namespace PC
open PySem L2
/-- a def: its object, its words, what they compile to -/
structure DefB (W : Wd) (Γ : Gam) (P : Prog) (mg : Str → Option Value) (base : Heap) (F : FnI) where
  f : Addr
  fd : FuncData
  nm : Str
  qual : Str
  params : Arguments
  body : List Stmt
  scope : Scope
  N : List Str
  dvs : List V
  kws : List (Str × V)
  c : CSs
  D : FunD W.K nm qual params body scope dvs kws f fd
  S : FnScope N F.ps scope
  cm : ∀ (L : Nat) (X : Cx), CxF W Γ N (calL P L) scope X → X.mg = mg → X.base = base → (∀ y, X.fn y = true) → (∃ (h : Addr), X.env = PyProof.Rows.envOfC qual scope h f fd.code) → X.stack = X.env :: X.outer → PSs X body (rdSs W (calL P L) c)
  pf : P.fns[F.id]? = some ⟨F.ps.length, N.length, c⟩
  bd : F.kwo = false → Binds W.K fd F.ps []
  kb : ∀ many ns ix, (F.id, many, ns) ∈ Γ.kws → oMap (argIx F many ns) F.ps.zipIdx = some ix → KB W.K fd F.ps many ns ix ((F.dfl.map (·.2)).map litV)
/-- a def of the top -/
structure DefOk (W : Wd) (Γ : Gam) (P : Prog) (mg : Str → Option Value) (base : Heap) (x : Str) (F : FnI) extends DefB W Γ P mg base F where
  hm : mg x = some (.ref f)
/-- a lambda of the text -/
structure LmOk (W : Wd) (Γ : Gam) (P : Prog) (l : Nat) (I : LmI) : Prop where
  S : NdefX.NScope I.N I.ps I.fr I.scope
  bd : ∀ (cl : List (Str × Addr)) (pm cd ct : Value) (us : List Value), us.length = I.ps.length → bindArgs (PySem.W.kla_fn "<lambda>" I.qual I.params I.body I.scope cl pm cd ct) ⟨us, []⟩ = pure (I.ps.zip us)
  cm : ∃ m c, cmE Γ I.N m I.scope I.body = some c ∧ P.lms[l]? = some ⟨I.ps.length, I.N.length, c⟩
structure Glo (W : Wd) (Γ : Gam) (P : Prog) (mg : Str → Option Value) (base : Heap) : Prop where
  con : ∀ x g, Γ.con.lookup x = some g → ∃ d v u, P.glos[g]? = some d ∧ mg x = some u ∧ RelV v u ∧ ∀ ι H, DV W ι H d v
  fns : ∀ x F, Γ.fns.lookup x = some F → Nonempty (DefOk W Γ P mg base x F)
  free : ∀ x ∈ bltNs, freeB Γ x = true → mg x = none
  lms : ∀ l I, W.lm l = some I → LmOk W Γ P l I
  cP : ∀ c K, P.cls[c]? = some K → c < W.nc
  cls : ∀ x c, Γ.cls.lookup x = some c → mg x = some (.ref (W.ca c)) ∧ ∃ (ms : List (Str × Nat)) (F : FnI) (d : DefB W Γ P mg base F), P.cls[c]? = some ⟨some F.id, ms⟩ ∧ Mk W.K (W.ca c) d.f ∧ F.kwo = false
  att : ∀ f ∈ Γ.att, AttOk W W.K f
  mth : ∀ c m id, (∃ K, P.cls[c]? = some K ∧ K.meths.lookup m = some id) → ∃ (F : FnI) (d : DefB W Γ P mg base F), F.id = id ∧ L2.Cls W.K (W.ca c) ∧ Meth W.K (W.ca c) m d.f ∧ F.kwo = false
  xns : ∀ x c y, Γ.xcs.lookup x = some (c, ("" : Str), y) → XnOk W W.K mg c x
  xcs : ∀ x c f y, Γ.xcs.lookup x = some (c, f, y) → f ≠ "" → ∀ (prog : Program) (w : World), XcOk W prog w W.K mg base c x f y
  xis : ∀ y cs, Γ.xis.lookup y = some cs → XiOk W W.K mg y cs
  xat : ∀ f ∈ Γ.att, XaOk W W.K f
section
variable {W : Wd} {Γ : Gam} {P : Prog} {mg : Str → Option Value} {prog : Program} {w : World} {base : Heap}
theorem env_start {ι : List Addr} {H : Hp} {ds : List D} {vs : List V} {N : List Str} {n : Nat} (h : DXs W ι H ds vs) (hn : ds.length = n) : EnV W ι H (ds.map some ++ List.replicate (N.length - n) none) (L2.start N vs) := by
  unfold L2.start
  have hl := DXs.length h
  refine ⟨by simp only [List.length_append, List.length_map, List.length_replicate]; omega, fun i d q => ?_⟩
  by_cases hi : i < ds.length
  · rw [List.getElem?_append_left (by simpa using hi), List.getElem?_map] at q
    obtain ⟨z, e1, e2⟩ := Option.map_eq_some_iff.mp q
    cases e2
    obtain ⟨v, e3, e4⟩ := DXs.get h e1
    refine ⟨v, ?_, e4⟩
    rw [List.getElem?_append_left (by simp; omega), List.getElem?_map, e3]
    rfl
  · rw [List.getElem?_append_right (by simpa using hi), List.getElem?_replicate] at q
    split at q <;> cases q
theorem fn_len {L id : Nat} {F : Fn} (hf : P.fns[id]? = some F) {vs : List V} {H : Hp} {Q : VK} (h : spF W (calL P L) id vs H Q) : vs.length = F.ps := by
  obtain ⟨ι, S, ds, d, S', R, hd, ev, g⟩ := h
  cases L with
  | zero => cases ev
  | succ L =>
    have ev' : oneF (calL P L) id ds S = some (d, S') := ev
    unfold oneF at ev'
    have hp : (calL P L).P = P := by cases L <;> rfl
    rw [hp, hf] at ev'
    simp only at ev'
    split at ev'
    · rename_i hl
      rw [← DXs.length hd]
      exact hl
    · cases ev'
theorem cal_P (L : Nat) : (calL P L).P = P := by cases L <;> rfl
/-- what is known at a level -/
structure Lvl (W : Wd) (Γ : Gam) (P : Prog) (prog : Program) (w : World) (mg : Str → Option Value) (base : Heap) (L : Nat) : Prop where
  hw : w = W.w
  fn : ∀ (F : FnI) (d : DefB W Γ P mg base F), FnG prog w W.K mg base (L + 2) d.f d.fd F.ps (spF W (calL P L) F.id)
  ini : (∀ f as S, (calL P L).ini f as S = none) ∨ ∃ k, L = k + 1 ∧ ∀ (F : FnI) (d : DefB W Γ P mg base F), FnG prog w W.K mg base (k + 2) d.f d.fd F.ps (spI W (calL P L) F.id)
  lm : ∀ l, LmG prog w W (calL P L) mg base (L + 2) l
theorem Lvl.cx (G : Glo W Γ P mg base) {L : Nat} (V : Lvl W Γ P prog w mg base L) {N : List Str} {sc : Scope} {X : Cx} (e1 : X.prog = prog) (e2 : X.w = w) (e3 : X.K = W.K) (e4 : X.mg = mg) (e5 : X.base = base) (hN : X.N = N) (nd : N.Nodup) (hsc : X.env.scope = sc) (hc : X.calm = true) (hg : X.A.guards = some []) (hr : Room (L + 2) X.A) : CxS W Γ N (calL P L) sc X := by
  subst e1 e2 e4 e5
  refine ⟨hN, nd, hsc, hc, e3, V.hw, hg, ?_, ?_, fun y F' hy => ?_, G.free, ⟨L + 2, hr, V.lm⟩, ?_, fun y c hy => ?_, ?_, ?_, hr.mono (by omega), fun x c y hx => ?_, fun x c f y hx hf => ?_, fun y cs hy => ?_, ?_⟩
  · have := hr.un
    omega
  · rw [cal_P]
    exact G.con
  · obtain ⟨d'⟩ := G.fns y F' hy
    have := V.fn F' d'.toDefB
    rw [← e3] at this
    exact ⟨d'.f, d'.fd, L + 2, d'.hm, by rw [e3]; exact d'.D.kp, hr, this, by rw [e3]; exact d'.bd, by rw [e3]; exact d'.kb⟩
  · rw [cal_P]
    exact G.cP
  · obtain ⟨h1, ms, F', d', h2, h3, h4⟩ := G.cls y c hy
    rcases V.ini with h0 | ⟨k, ek, hk⟩
    · exact .inr h0
    · have := hk F' d'
      rw [← e3] at this
      subst ek
      exact .inl ⟨F'.id, ms, d'.f, d'.fd, F'.ps, k + 2, by rw [cal_P]; exact h2, h1, by rw [e3]; exact h3, this, hr, by rw [e3]; exact d'.bd h4⟩
  · rw [e3]
    exact G.att
  · intro c m id hc0 hK
    rw [cal_P] at hK
    obtain ⟨F', d', e, h1, h2, h4⟩ := G.mth c m id hK
    subst e
    have := V.fn F' d'
    rw [← e3] at this
    exact ⟨d'.f, d'.fd, F'.ps, L + 2, by rw [e3]; exact h1, by rw [e3]; exact h2, this, hr, by rw [e3]; exact d'.bd h4⟩
  · rw [e3]
    exact G.xns _ _ _ hx
  · rw [e3]
    exact G.xcs _ _ _ _ hx hf _ _
  · rw [e3]
    exact G.xis _ _ hy
  · rw [e3]
    exact G.xat
theorem fn_step (G : Glo W Γ P mg base) {L : Nat} (V : Lvl W Γ P prog w mg base L) (F : FnI) (d : DefB W Γ P mg base F) : FnG prog w W.K mg base (L + 1 + 2) d.f d.fd F.ps (spF W (calL P (L + 1)) F.id) := by
  refine ⟨fun vs H Q h => fn_len d.pf h, fun A outer s H args us vs Q hr hg e0 hb r h => ?_⟩
  obtain ⟨oc, od, dV, kV, doc, pm, an, cdv, ct, osl, hfd, lk, hcd, _, _⟩ := d.D.ex
  have hcode : d.fd.code = cdv := by rw [hfd]
  rw [hfd] at lk hb
  refine LamX.run_ofS lk hcd d.S hr e0 hb r (fn_len d.pf h) fun hr' => ?_
  obtain ⟨ι, S, ds, dd, S', R, hd, ev, g⟩ := h
  have ev' : oneF (calL P L) F.id ds S = some (dd, S') := ev
  unfold oneF at ev'
  rw [cal_P, d.pf] at ev'
  simp only at ev'
  split at ev'
  · rename_i hl
    refine ⟨rdSs W (calL P L) d.c, PSs.nox (d.cm L _ ⟨V.cx G rfl rfl rfl rfl rfl rfl d.S.nd rfl rfl hg hr', PassesOwn.never, fun y hy => ⟨loc_of hy, .inl rfl⟩⟩ rfl rfl (fun _ => rfl) ⟨_, by rw [hcode]; rfl⟩ rfl), ?_⟩
    unfold endD at ev'
    split at ev'
    · rename_i e1 S1 hx
      cases ev'
      exact ⟨ι, S, _, .nx, e1, S', R, env_start hd hl, hx, fun ι' H' σ' E R' V' => g ι' H' .non E R' rfl⟩
    · rename_i dx e1 S1 hx
      cases ev'
      exact ⟨ι, S, _, .rt dd, e1, S', R, env_start hd hl, hx, fun ι' H' σ' E R' V' v hv => g ι' H' v E R' hv⟩
    · cases ev'
  · cases ev'
/-- the cells that a closure names -/
def celsOf (cl : List (Str × Addr)) : List Addr := cl.filterMap fun p => cl.lookup p.1
theorem cels_mem {cl : List (Str × Addr)} {a : Addr} : a ∈ celsOf cl ↔ ∃ y, cl.lookup y = some a := by
  unfold celsOf
  rw [List.mem_filterMap]
  constructor
  · rintro ⟨p, _, h⟩
    exact ⟨p.1, h⟩
  · rintro ⟨y, h⟩
    exact ⟨(y, a), mem_of_lookup h, h⟩
theorem lent_cells {H : Hp} {cl : List (Str × Addr)} {fr : List Str} {vs : List V} (h : CellsV H cl fr vs) : Lent H (celsOf cl) := fun a ha => by
  obtain ⟨y, hy⟩ := cels_mem.mp ha
  obtain ⟨o, v, h1, h2⟩ := h.all y a hy
  exact ⟨o, h1, (fun us z => by rw [h2] at z; cases z), fun es ep z => by rw [h2] at z; cases z⟩
theorem env_lam {ι : List Addr} {H : Hp} {ds cs : List D} {vs ws : List V} {N : List Str} (h : DVs W ι H ds vs) (h2 : DVs W ι H cs ws) : EnV W ι H (ds.map some ++ (cs.map some ++ List.replicate (N.length - ds.length - cs.length) none)) (NdefX.startF N vs (ws.map some)) := by
  unfold NdefX.startF
  have hl := DVs.length h
  have hl2 := DVs.length h2
  refine ⟨by simp only [List.length_append, List.length_map, List.length_replicate]; omega, fun i d q => ?_⟩
  by_cases hi : i < ds.length
  · rw [List.getElem?_append_left (by simpa using hi), List.getElem?_map] at q
    obtain ⟨z, e1, e2⟩ := Option.map_eq_some_iff.mp q
    cases e2
    obtain ⟨v, e3, e4⟩ := DVs.get h e1
    refine ⟨v, ?_, .inl e4⟩
    rw [List.getElem?_append_left (by simp; omega), List.getElem?_map, e3]
    rfl
  · rw [List.getElem?_append_right (by simpa using hi)] at q
    rw [List.getElem?_append_right (by simp; omega)]
    simp only [List.length_map] at q ⊢
    by_cases hj : i - ds.length < cs.length
    · rw [List.getElem?_append_left (by simpa using hj), List.getElem?_map] at q
      obtain ⟨z, e1, e2⟩ := Option.map_eq_some_iff.mp q
      cases e2
      obtain ⟨v, e3, e4⟩ := DVs.get h2 e1
      refine ⟨v, ?_, .inl e4⟩
      rw [← hl, List.getElem?_append_left (by simp; omega), List.getElem?_map, e3]
      rfl
    · rw [List.getElem?_append_right (by simpa using hj), List.getElem?_replicate] at q
      split at q <;> cases q
theorem lm_step (G : Glo W Γ P mg base) {L : Nat} (V : Lvl W Γ P prog w mg base L) (l : Nat) : LmG prog w W (calL P (L + 1)) mg base (L + 1 + 2) l := by
  intro A outer s H f us vs Q hr hg e0 r h
  obtain ⟨ι, S, ds, cs, d, S', R, hv, hd, ev, g⟩ := h
  obtain ⟨I, c, cl, pm, ct, ws, h1, h2, h3, h4, h5, h6⟩ := hv
  have O := G.lms l I h1
  obtain ⟨m, c0, hc0, hp⟩ := O.cm
  have ev' : oneL (calL P L) l ds cs S = some (d, S') := ev
  unfold oneL at ev'
  rw [cal_P, hp] at ev'
  simp only at ev'
  split at ev'
  · rename_i hl
    have Lt := lent_cells h6
    have of1 := obo_get e0.hok h2
    obtain ⟨⟨oc, cvs, t, hoc, hdc, hvc⟩, _, _⟩ := e0.hok c _ h3
    have hlv : vs.length = I.ps.length := by rw [← DVs.length hd]; exact hl
    have lim : s.heap.NoLimit := e0.mod.nolimit.keeps fun b o e => (e0.bs b o e).1
    refine PySem.W.kla_callFunE hr.depth of1 rfl O.S.co O.S.gen rfl ⟨c, oc, cvs, t, rfl, hoc, hdc, hvc⟩ ?_
    rw [O.bd _ _ _ _ us (by rw [← r.length]; exact hlv)]
    refine wpAny_pure (wpAny_newFunctionEnv O.S.nocell (fun ⟨n, _⟩ hy => O.S.par n (List.of_mem_zip hy).1) (fun h₁ hns hsb => ⟨lim.fresh _ hsb, ?_⟩) O.S.kind)
    have kp : ∀ b o, s.heap.get? b = some o → h₁.get? b = some o := fun b o e => hsb.extBut b o (Nat.ne_of_lt (Heap.lt_size e)) (Heap.get?_push_of_some _ e)
    have e0' : Env0 prog w W.K mg base A outer s (dropA (celsOf cl) H) := ⟨e0.frames, e0.mod, fun b o e => ⟨(e0.bs b o e).1, drop_none (e0.bs b o e).2⟩, e0.bsz, e0.funs, fun b hb => drop_none (e0.frf b hb), HOk.drop' e0.hok Lt, e0.bare⟩
    have cells : NdefX.CellsAt cl I.fr (ws.map some) s.heap (dropA (celsOf cl) H) := by
      refine ⟨by rw [List.length_map]; exact h6.len, fun y a hy => ⟨drop_in (cels_mem.mpr ⟨y, hy⟩), ?_⟩, h6.inj, fun i y hy => ?_⟩
      · obtain ⟨o, v, q1, q2⟩ := h6.all y a hy
        exact ⟨v, o, obo_get e0.hok q1, q2⟩
      · have hi : i < ws.length := by
          rw [h6.len]
          exact (List.getElem?_eq_some_iff.mp hy).1
        obtain ⟨a, o, u, q1, q2, q3, q4⟩ := h6.at_ i y ws[i] hy (List.getElem?_eq_getElem hi)
        refine ⟨a, q1, fun v hv => ?_⟩
        rw [List.getElem?_map, List.getElem?_eq_getElem hi] at hv
        cases hv
        exact ⟨u, q4, o, obo_get e0.hok q2, q3⟩
    have J := NdefX.inv_startN (CX := CX0) (P := prog) (w := w) (K := W.K) (mg := mg) (base := base) (N := I.N) (ps := I.ps) (fr := I.fr) (F := ⟨"<lambda>", I.qual, I.params, [], I.scope, cl, c⟩) (f := f) (E := E0) (tk := s.toks + (I.ps.zip us).length) O.S hr.hd e0' hlv r cells hns kp
    have hpe := PE.nox ((cmE_ok m _ (NdefX.ncx CX0 prog w W.K mg base I.N ⟨"<lambda>", I.qual, I.params, [], I.scope, cl, c⟩ f A outer s (dropA (celsOf cl) H) E0).nox _ _ (V.cx G rfl rfl rfl rfl rfl rfl O.S.nd rfl rfl hg (hr.deeper _)) hc0).1)
    have hrd : rdE W (calL P L) c0 (NdefX.startF I.N vs (ws.map some)) (dropA (celsOf cl) H) fun v H1 => (∀ a ∈ celsOf cl, H1 a = none) → Q v (putA (celsOf cl) H H1) := by
      have dk := DVs.gen (W := W) (ι := ι) (ι' := ι) (fun _ _ h => h) Lt.tf
      refine ⟨ι, S, _, d, S', R.drop Lt e0.hok, env_lam (dk _ _ hd) (dk _ _ h5), ev', fun ι' H1 v E R' hv hn => ?_⟩
      refine g ι' _ v (Ext.back' Lt E fun a ha hm => ?_) (R'.back' hn) (DV.back' hn hv)
      obtain ⟨u, q, _⟩ := R'.mem hm
      rw [hn a ha] at q
      cases q
    refine PySem.W.kla_codeExpr (wpAny_mono (hpe.run [] _ _ _ _ J hrd) (fun v s' hq => ?_) fun e s' hq => hq)
    obtain ⟨x, H1, J', rv, q⟩ := hq
    have U : Un (frs outer) [] (dropA (celsOf cl) H) H1 s.heap s'.heap := J'.base
    have hn : ∀ a ∈ celsOf cl, H1 a = none := fun a ha => by
      obtain ⟨o, q, _⟩ := Lt a ha
      exact U.free a o (obo_get e0.hok q) (drop_in ha) (by simp)
    refine ⟨x, _, J'.os, J'.bare, Un.back' Lt U, HOk.back' e0.hok Lt J'.hok hn fun a ha o e => ?_, rv, q hn⟩
    refine U.keep a o e (drop_in ha) (fun z => ?_) (by simp)
    obtain ⟨ob, q, _⟩ := Lt a ha
    rw [e0.frf a z] at q
    cases q
  · cases ev'
theorem lvl_all (G : Glo W Γ P mg base) (hw : w = W.w) : ∀ L : Nat, Lvl W Γ P prog w mg base L
  | 0 => ⟨hw, fun F d => ⟨fun vs H Q h => fn_len d.pf h, fun A outer s H args us vs Q hr hg e0 hb r h => by
      obtain ⟨ι, S, ds, dd, S', R, hd, ev, g⟩ := h
      cases ev⟩, .inl fun f as S => rfl, fun l A outer s H f us vs Q hr hg e0 r h => by
      obtain ⟨ι, S, ds, cs, dd, S', R, hv, hd, ev, g⟩ := h
      cases ev⟩
  | L + 1 => ⟨hw, fn_step G (lvl_all G hw L), .inr ⟨L, rfl, fun F d => (lvl_all G hw L).fn F d⟩, lm_step G (lvl_all G hw L)⟩
end
end PC
end
section
set_option Elab.async false
set_option linter.all false
set_option maxRecDepth 100000
set_option maxHeartbeats 1000000
/-! PC: a lambda made as the last argument of a call. -/
namespace PC
open PySem L2 LamX
section
variable {W : Wd} {C : Cal} {ι ι' ι1 ι2 : List Addr} {S S' S0 S1 S2 : Sto} {H H' H1 H2 : Hp} {e e' : En} {σ σ' : L2.St} {X : Cx} {pos p : Pos} {es : List Expr} {cs : CEs} {pins : List (Addr × Obj)} {s : Shared}
/-- what is known where the lambda has just been made -/
structure Made (X : Cx) (pins : List (Addr × Obj)) (σ : L2.St) (T : List (Addr × Str)) (H : Hp) (s : Shared) (I : LmI) (cl : List (Str × Addr)) (f c : Addr) (pm ct : Value) (H1 : Hp) (s1 : Shared) : Prop where
  inv : L2.Inv X pins σ H1 s1
  ext : ExtN H H1
  tab : Tabs T H1
  at_ : s1.heap.get? f = some (lamObj I cl pm c ct)
  none : H1 f = none
  new : X.base.objs.size ≤ f
  nofr : f ∉ frs X.stack
  code : H1 c = some (CodeO c I.qual)
theorem made_new (I : L2.Inv X pins σ H s) {f : Addr} (h : s.heap.objs.size ≤ f) : X.base.objs.size ≤ f ∧ f ∉ frs X.stack := by
  refine ⟨Nat.le_trans (Nat.le_trans I.ok.bsz I.sz) h, fun z => ?_⟩
  rcases List.mem_cons.mp (I.stkSub _ z) with e | e
  · have h1 := I.lt
    rw [← e] at h1
    exact Nat.lt_irrefl _ (Nat.lt_of_lt_of_le h1 h)
  · exact I.nofs h e
theorem lam_made {T : List (Addr × Str)} {Im : LmI} {c0 P0 : Addr} {lp : Pos} {E : Value → Shared → Prop} {Q : Value → Shared → Prop} (I : L2.Inv X pins σ H s) (hq : Im.qual = X.env.qual ++ "<lambda>") (TB : TabB X.base X.mg c0 P0) (hcode : X.env.code = .ref c0) (hm : (P0, Im.qual) ∈ T) (hu : ∀ q ∈ T, q.1 = P0 → q.2 = Im.qual)
    (hT : Tabs T H) (hdef : defaultsOf Im.params X.env = ([], [])) (hfree : ∀ y ∈ Im.scope.names, y.2 = .free → ∃ c, X.env.cells.lookup y.1 = some c)
    (k : ∀ f c pm ct H1 s1, Made X pins σ T H s Im (cloFrom X.env.cells Im.scope.names []) f c pm ct H1 s1 → Q (.ref f) s1) : wpAny (model X.prog X.w) X.A (eval (.Lambda Im.params Im.body Im.scope lp) X.env) Q E s := by
  refine PySem.W.kla_eval hdef ?_
  rw [← hq]
  obtain ⟨tb, tb1, tb2, tb3⟩ := hT _ hm
  have got := I.hok P0 _ tb1
  have clo := closure_ok (scope := Im.scope) (env := X.env) hfree
  have glo := I.mod.glob.keeps I.bk
  have cod := TB.code.keeps I.bk
  have bui := TB.bm.keeps I.bk
  cases found : codeAmong lp tb.toList with
  | some cv =>
    obtain ⟨c1, rfl, isc⟩ := tb3 lp cv found
    refine PySem.W.kla_makeFunctionHit clo I.ok.glob glo hcode cod got tb2 found bui fun ct h1 tk old big => ?_
    refine k h1.objs.size c1 _ ct H _ ⟨I.kept fun b o q => Heap.get?_push_of_some _ (old b o q), ExtN.refl H, hT, Heap.get?_push_size _ rfl, I.hok.fresh big, (made_new I big).1, (made_new I big).2, isc⟩
  | none =>
    refine PySem.W.kla_makeFunction clo I.ok.glob glo hcode cod got tb2 found TB.gP bui fun c1 ct h1 tk old ge lt rec now => ?_
    obtain ⟨c2, oc, us, t, q0, q1, q2, q3⟩ := rec
    cases q0
    have big : s.heap.objs.size ≤ h1.objs.size := by omega
    have n1 : H c1 = none := I.hok.fresh ge
    let more : Array Value := #[rawInt lp.line, rawInt lp.col, .ref c1]
    have I1 := inv_table (t' := tk) (more := more) (h' := h1.push (lamObj Im (cloFrom X.env.cells Im.scope.names []) ((X.mg "__name__").getD .none) c1 ct)) I tb1 (fun b o hb q => Heap.get?_push_of_some _ (old b o hb q)) (Heap.get?_push_of_some _ now) ge ⟨oc, us, t, Heap.get?_push_of_some _ q1, q2, q3⟩
    have grow : ExtN H (upd (upd H P0 (.tbl (tb ++ more))) c1 (CodeO c1 Im.qual)) := fun b o q nt => by
      have z1 : b ≠ c1 := ne_of_none q n1
      have z2 : b ≠ P0 := fun z => by
        rw [z, tb1] at q
        exact nt tb (Option.some.inj q).symm
      rw [upd_ne z1, upd_ne z2]
      exact q
    have e1 : (tb ++ more).toList = tb.toList ++ [rawInt lp.line, rawInt lp.col, .ref c1] := by simp [more]
    refine k h1.objs.size c1 _ ct _ _ ⟨I1, grow, fun q hq1 => ?_, Heap.get?_push_size _ rfl, ?_, (made_new I big).1, (made_new I big).2, upd_same⟩
    · by_cases z : q.1 = P0
      · rw [hu q hq1 z, z]
        refine ⟨tb ++ more, by rw [upd_ne (ne_of_none tb1 n1), upd_same], by rw [e1]; exact PySem.TriplesOk_snoc _ _ _ _ tb2, fun pp cv hcv => ?_⟩
        rw [e1] at hcv
        rcases among_app _ tb2 hcv with y | y
        · obtain ⟨c3, y1, y2⟩ := tb3 pp cv y
          exact ⟨c3, y1, grow _ _ y2 codeO_ne⟩
        · exact ⟨c1, y, upd_same⟩
      · obtain ⟨ps, y1, y2, y3⟩ := hT q hq1
        refine ⟨ps, by rw [upd_ne (ne_of_none y1 n1), upd_ne z]; exact y1, y2, fun pp cv hcv => ?_⟩
        obtain ⟨c3, x1, x2⟩ := y3 pp cv hcv
        exact ⟨c3, x1, grow _ _ x2 codeO_ne⟩
    · have lt0 := Heap.lt_size got
      rw [upd_ne (Nat.ne_of_gt lt), upd_ne (Nat.ne_of_gt (Nat.lt_of_lt_of_le lt0 big))]
      exact I.hok.fresh big
/-- the store's relation where only tables grew -/
theorem ext_tables (R : Rep W ι S H) (x : ExtN H H1) (t : Tabs W.T H1) : Ext ι S H ι S H1 ∧ Rep W ι S H1 := by
  have E : Ext ι S H ι S H1 := ⟨⟨[], by simp, by simp⟩, fun a o h nt _ => x a o h nt, fun _ _ => rfl⟩
  refine ⟨E, R.len, R.nd, fun n a o h1 h2 => ?_, t⟩
  have q := R.ob n a o h1 h2
  obtain ⟨u, e, own⟩ := OV.held q
  exact OV.mono E R q ((x a u e fun ps z => by rw [z] at own; exact own).trans e.symm)
/-- what stands at the addresses A of the heap h, lent -/
def lendA (A : List Addr) (h : Heap) (H : Hp) : Hp := fun a => if a ∈ A then (h.get? a).map (ObO a) else H a
theorem lend_in {A : List Addr} {h : Heap} {a : Addr} {o : Obj} (ha : a ∈ A) (e : h.get? a = some o) : lendA A h H a = some (ObO a o) := by
  unfold lendA
  rw [if_pos ha, e]
  rfl
theorem lend_out {A : List Addr} {h : Heap} {a : Addr} (ha : a ∉ A) : lendA A h H a = H a := if_neg ha
theorem lend_ok {P : Program} {w : World} {A : List Addr} {h : Heap} (ok : HOk P w H h) (hn : ∀ a ∈ A, H a = none) : HOk P w (lendA A h H) h := fun a u e => by
  by_cases ha : a ∈ A
  · unfold lendA at e
    rw [if_pos ha] at e
    obtain ⟨o, q, rfl⟩ := Option.map_eq_some_iff.mp e
    exact ⟨q, ⟨o, q⟩, fun h1 h2 z st => st _ z⟩
  · rw [lend_out ha] at e
    have out : ∀ {b v}, H b = some v → b ∉ A := fun {b v} q z => by
      rw [hn b z] at q
      cases q
    exact (ok a u e).stay (fun _ _ _ q => q) (fun b q => by rw [lend_out (out q)]; exact q) fun b xs q => by rw [lend_out (out q)]; exact q
theorem pas_star : ∀ {es : List Expr} {cs : CEs}, PAs W C X es cs → es.all notStar = true
  | _, _, .nil => rfl
  | _, _, .cons _ hs t => by rw [List.all_cons, hs, pas_star t]; rfl
theorem ok_callL {f : Addr} {fd : FuncData} {ps : List Str} {k id l : Nat} {x : Str} {caps : List Nat} {Im : LmI} {c0 P0 : Addr} {lp : Pos} (F : FnG X.prog X.w X.K X.mg X.base k f fd ps (spF W C id)) (hr : Room k X.A) (hgd : X.A.guards = some []) (hg : Gl X x) (hm : X.mg x = some (.ref f)) (hk : PySem.W.keepIn X.K (.ref f) = true) (hb : Binds X.K fd ps [])
    (hdb : x ≠ "__debug__") (hfn : ∀ y, X.fn y = true) (hl : W.lm l = some Im) (hq : Im.qual = X.env.qual ++ "<lambda>") (TB : TabB X.base X.mg c0 P0) (hcode : X.env.code = .ref c0) (hmT : (P0, Im.qual) ∈ W.T) (hu : ∀ q ∈ W.T, q.1 = P0 → q.2 = Im.qual) (hdef : defaultsOf Im.params X.env = ([], []))
    (hfree : ∀ y ∈ Im.scope.names, y.2 = .free → X.env.scope.names.lookup y.1 = some .cell ∨ X.env.scope.names.lookup y.1 = some .free) (hfr : ∀ y ∈ Im.fr, (y, NameKind.free) ∈ Im.scope.names) (hcl : caps.length = Im.fr.length) (hcap : ∀ (i : Nat) y j, Im.fr[i]? = some y → caps[i]? = some j → X.N[j]? = some y)
    (hp : PAs W C X es cs) : PE X (.Call (.Name x p) (es ++ [.Lambda Im.params Im.body Im.scope lp]) [] pos) (rdE W C (.callL id cs l caps)) := by
  refine ⟨fun pins s σ H Q I h => ?_⟩
  obtain ⟨ι, S, e, d, S', R, Ve, ev, g⟩ := h
  simp only [evE] at ev
  obtain ⟨xs, S1, ev1, ev⟩ := bnd_some ev
  split at ev
  · rename_i ls hls
    let cl := cloFrom X.env.cells Im.scope.names []
    have has : ∀ y ∈ Im.scope.names, y.2 = .free → ∃ c, X.env.cells.lookup y.1 = some c := fun y hy hy2 => I.ok.has y.1 (hfree y hy hy2)
    -- the arguments
    have args : ∀ {es : List Expr} {cs : CEs} {ι : List Addr} {S S1 : Sto} {H : Hp} {xs : List D} {s : Shared}, PAs W C X es cs → L2.Inv X pins σ H s → Rep W ι S H → EnV W ι H e σ → evEs C cs e S = some (xs, S1) →
        wpAny (model X.prog X.w) X.A (spliced (backTo pos (starEach (es ++ [.Lambda Im.params Im.body Im.scope lp]) X.env))) (fun us s1 => ∃ f c pm ct H0 s0 H1 ι1 vs us0, us = us0 ++ [.ref f] ∧ Made X pins σ W.T H0 s0 Im cl f c pm ct H1 s1 ∧ Ext ι S H ι1 S1 H1 ∧ Rep W ι1 S1 H1 ∧ DVs W ι1 H1 xs vs ∧ Vals vs us0 ∧ EnV W ι1 H1 e σ) X.xe s := by
      intro es cs
      induction es generalizing cs with
      | nil =>
        intro ι S S1 H xs s hp I R Ve ev
        cases hp
        simp only [evEs] at ev
        cases ev
        refine PyProof.Rows.args_cons (lam_made I hq TB hcode hmT hu R.tab hdef has fun f c pm ct H1 s1 M => PyProof.Rows.args_nil ?_) rfl
        obtain ⟨E, R1⟩ := ext_tables R M.ext M.tab
        exact ⟨f, c, pm, ct, H, s, H1, ι, [], [], rfl, M, E, R1, rfl, .nil, Ve.mono E R⟩
      | cons a es ih =>
        intro ι S S1 H xs s hp I R Ve ev
        cases hp with
        | cons ha hs t =>
          simp only [evEs] at ev
          obtain ⟨x, S2, e1, ev⟩ := bnd_some ev
          obtain ⟨ys, S3, e2, ev⟩ := bnd_some ev
          cases ev
          refine PyProof.Rows.args_cons (thn (ha.run pins s σ H (fun v H2 => ∃ ι2, Ext ι S H ι2 S2 H2 ∧ Rep W ι2 S2 H2 ∧ DV W ι2 H2 x v) I (rdE_then R Ve e1 fun ι2 H2 v E2 R2 hv V2 => ⟨ι2, E2, R2, hv⟩)) fun u s2 ⟨v, H2, I2, rv, ι2, E2, R2, hv⟩ => ?_) (star_cons hs)
          refine thn (ih t I2 R2 (Ve.mono E2 R) e2) fun us s3 ⟨f, c, pm, ct, H0, s0, H1, ι1, vs, us0, q1, M, E1, R1, q3, q4, q5⟩ => ?_
          exact ⟨f, c, pm, ct, H0, s0, H1, ι1, v :: vs, u :: us0, by rw [q1]; rfl, M, E2.trans R2 E1, R1, ⟨v, vs, rfl, DV.mono E1 R2 _ _ hv, q3⟩, .cons rv q4, q5⟩
    have hs : es.all notStar = true := pas_star hp
    have hs' : (es ++ [Expr.Lambda Im.params Im.body Im.scope lp]).all notStar = true := by rw [List.all_append, hs]; rfl
    have body : ∀ us s1, (∃ f c pm ct H0 s0 H1 ι1 vs us0, us = us0 ++ [.ref f] ∧ Made X pins σ W.T H0 s0 Im cl f c pm ct H1 s1 ∧ Ext ι S H ι1 S1 H1 ∧ Rep W ι1 S1 H1 ∧ DVs W ι1 H1 xs vs ∧ Vals vs us0 ∧ EnV W ι1 H1 e σ) → X.K.In s1.heap ∧ wpAny (model X.prog X.w) X.A (PySem.call (.ref f) ([] ++ us)) (EP X pins σ Q) X.xe s1 := by
      rintro us s1 ⟨g0, c, pm, ct, H0, s0, H1, ι1, vs, us0, rfl, M, E1, R1, hxs, hvs, V1⟩
      have I1 := M.inv
      refine ⟨I1.kIn, ?_⟩
      let A : List Addr := g0 :: celsOf cl
      have cm : ∀ {y a}, cl.lookup y = some a → X.env.cells.lookup y = some a := fun {y a} q => NdefX.clo_cm has q
      -- the lent things stand apart
      have apart : ∀ a ∈ A, H1 a = none ∧ X.base.objs.size ≤ a ∧ a ∉ frs X.stack ∧ ∃ o, s1.heap.get? a = some o ∧ (∀ us, o.data ≠ .fields us) ∧ ∀ es ep, o.data ≠ .dict es ep := fun a ha => by
        rcases List.mem_cons.mp ha with rfl | ha
        · exact ⟨M.none, M.new, M.nofr, _, M.at_, (fun us z => by cases z), fun es ep z => by cases z⟩
        · obtain ⟨y, hy⟩ := cels_mem.mp ha
          obtain ⟨v, o, ho, hd⟩ := I1.cell y a (cm hy)
          refine ⟨I1.freeC y a (cm hy), Nat.le_trans I1.ok.bsz (I1.ok.cab y a (hfn y) (cm hy)), fun z => ?_, o, ho, (fun us z => by rw [hd] at z; cases z), fun es ep z => by rw [hd] at z; cases z⟩
          rcases List.mem_cons.mp (I1.stkSub _ z) with e | e
          · exact I1.cne y a (cm hy) e
          · obtain ⟨_, o', ho', _⟩ := I1.ok.funs.mem e
            exact absurd (Nat.lt_of_lt_of_le (Heap.lt_size ho') (I1.ok.cab y a (hfn y) (cm hy))) (Nat.lt_irrefl _)
      let H3 := lendA A s1.heap H1
      have hn : ∀ a ∈ A, H1 a = none := fun a ha => (apart a ha).1
      have out : ∀ {b v}, H1 b = some v → b ∉ A := fun {b v} q z => by
        rw [hn b z] at q
        cases q
      have up : ∀ b v, H1 b = some v → H3 b = some v := fun b v q => by
        show lendA A s1.heap H1 b = _
        rw [lend_out (out q)]
        exact q
      have ok3 : HOk X.prog X.w H3 s1.heap := lend_ok I1.hok hn
      have z0 := I1.env0
      have env3 : Env0 X.prog X.w X.K X.mg X.base X.A X.stack s1 H3 := ⟨z0.frames, z0.mod, fun b o q => ⟨(z0.bs b o q).1, by
          show lendA A s1.heap H1 b = _
          rw [lend_out fun hb => absurd (Heap.lt_size q) (Nat.not_lt_of_le (apart b hb).2.1)]
          exact (z0.bs b o q).2⟩, z0.bsz, z0.funs, fun b hb => by
          show lendA A s1.heap H1 b = _
          rw [lend_out fun ha => (apart b ha).2.2.1 hb]
          exact z0.frf b hb, ok3, z0.bare⟩
      have E3 : Ext ι1 S1 H1 ι1 S1 H3 := ⟨⟨[], by simp, by simp⟩, fun a o h _ _ => up a o h, fun _ _ => rfl⟩
      have R3 : Rep W ι1 S1 H3 := by
        refine ⟨R1.len, R1.nd, fun n a o h1 h2 => ?_, R1.tab.ext up⟩
        have q := R1.ob n a o h1 h2
        obtain ⟨u, q1, own⟩ := OV.held q
        exact OV.mono E3 R1 q ((up a u q1).trans q1.symm)
      -- the captured names
      obtain ⟨vls, hvl, hdl⟩ : ∃ vls, DVs W ι1 H3 ls vls ∧ ∀ (i : Nat) y x, Im.fr[i]? = some y → vls[i]? = some x → ∃ a o u, cl.lookup y = some a ∧ H3 a = some (ObO a o) ∧ o.data = .cell (some u) ∧ RelV x u := by
        have one : ∀ (j : Nat) y dd, X.N[j]? = some y → (y, NameKind.free) ∈ Im.scope.names → capD e j = some dd → ∃ x, DV W ι1 H3 dd x ∧ ∃ a o u, cl.lookup y = some a ∧ H3 a = some (ObO a o) ∧ o.data = .cell (some u) ∧ RelV x u := fun j y dd q1 q2 q3 => by
          unfold capD at q3
          split at q3
          · rename_i d0 hd0
            split at q3
            · cases q3
            · rename_i nl
              cases q3
              obtain ⟨x, w1, w2⟩ := V1.2 j _ hd0
              obtain ⟨m, hm, hloc⟩ := I1.loc
              have kind := hfree _ q2 rfl
              obtain ⟨u, ru, look⟩ := hloc j y x q1 w1 (kind.elim (fun k => .inr (.inl k)) fun k => .inr (.inr k))
              refine ⟨x, DV.mono E3 R1 _ _ (w2.dv (by simpa using nl)), ?_⟩
              rcases look with ⟨k1, _⟩ | ⟨_, a, k1, o, k2, k3⟩
              · have k1' : X.env.scope.names.lookup y = some .local := k1
                rcases kind with k | k <;> rw [show X.env.scope.names.lookup y = _ from k] at k1' <;> cases k1'
              · have hc := NdefX.clo_has has q2 k1
                refine ⟨a, o, u, hc, lend_in (List.mem_cons_of_mem _ (cels_mem.mpr ⟨y, hc⟩)) k2, k3, ru⟩
          · cases q3
        have go : ∀ (fr : List Str) (caps : List Nat) (ls : List D), (∀ y ∈ fr, (y, NameKind.free) ∈ Im.scope.names) → (∀ (i : Nat) y j, fr[i]? = some y → caps[i]? = some j → X.N[j]? = some y) → optMap (capD e) caps = some ls → fr.length = caps.length →
            ∃ vls, DVs W ι1 H3 ls vls ∧ ∀ (i : Nat) y x, fr[i]? = some y → vls[i]? = some x → ∃ a o u, cl.lookup y = some a ∧ H3 a = some (ObO a o) ∧ o.data = .cell (some u) ∧ RelV x u := by
          intro fr
          induction fr with
          | nil =>
            intro caps ls _ _ q3 q4
            have : caps = [] := List.eq_nil_of_length_eq_zero q4.symm
            subst this
            cases q3
            exact ⟨[], rfl, fun i y x z => by simp at z⟩
          | cons y fr ih =>
            intro caps ls q1 q2 q3 q4
            cases caps with
            | nil => cases q4
            | cons j caps =>
              obtain ⟨d0, ds, rfl, w1, w2⟩ := optMap_cons q3
              obtain ⟨x, w3, w4⟩ := one j y d0 (q2 0 y j rfl rfl) (q1 y List.mem_cons_self) w1
              obtain ⟨vls, w5, w6⟩ := ih caps ds (fun z hz => q1 z (List.mem_cons_of_mem _ hz)) (fun i z jj h1 h2 => q2 (i + 1) z jj (by simpa using h1) (by simpa using h2)) w2 (by simpa using q4)
              refine ⟨x :: vls, ⟨x, vls, rfl, w3, w5⟩, fun i z xx h1 h2 => ?_⟩
              cases i with
              | zero =>
                simp at h1 h2
                subst h1 h2
                exact w4
              | succ i => exact w6 i z xx (by simpa using h1) (by simpa using h2)
        exact go Im.fr caps ls hfr hcap hls hcl.symm
      have hlen : vls.length = Im.fr.length := by
        rw [← DVs.length hvl]
        have := optMap_len hls
        omega
      have lv : LamV W ι1 H3 l ls g0 := by
        refine ⟨Im, c, cl, pm, ct, vls, hl, lend_in List.mem_cons_self M.at_, up _ _ M.code, fun y a hy => ⟨?_, ?_⟩, hvl, hlen, fun y z a h1 h2 => I1.ok.inj y z a (cm h1) (cm h2), fun y a hy => ?_, hdl⟩
        · rintro rfl
          obtain ⟨v, o, ho, hd⟩ := I1.cell y _ (cm hy)
          rw [M.at_] at ho
          cases ho
          cases hd
        · rintro rfl
          have := I1.freeC y _ (cm hy)
          rw [M.code] at this
          cases this
        · obtain ⟨v, o, ho, hd⟩ := I1.cell y a (cm hy)
          exact ⟨o, v, lend_in (List.mem_cons_of_mem _ (cels_mem.mpr ⟨y, hy⟩)) ho, hd⟩
      have lnt : ∀ {ι' S' H'}, Ext ι1 S1 H3 ι' S' H' → Lent H' A := fun {ι' S' H'} E a ha => by
        obtain ⟨_, _, _, o, ho, nf, nd⟩ := apart a ha
        exact ⟨o, E.ext R3 (lend_in ha ho) (obo_no nd), nf, nd⟩
      have hargs : DXs W ι1 H3 (xs ++ [.lam l ls]) (vs ++ [.ref g0]) := DXs.snoc (.inr ⟨l, ls, g0, rfl, rfl, lv⟩) (DVs.mono E3 R1 _ _ hxs)
      have run := F.run X.A X.stack s1 H3 ⟨us0 ++ [.ref g0], []⟩ (us0 ++ [.ref g0]) (vs ++ [.ref g0]) (fun v H' => ∃ ι', Ext ι1 S1 H3 ι' S' H' ∧ Rep W ι' S' H' ∧ DV W ι' H' d v) hr hgd env3 (by
        have hlb : (us0 ++ [Value.ref g0] ++ []).length = ps.length := by
          have q := F.len (vs ++ [.ref g0]) H3 (fun _ _ => True) ⟨ι1, S1, _, d, S', R3, hargs, ev, fun _ _ _ _ _ _ => trivial⟩
          rw [List.append_nil, ← q, List.length_append, List.length_append, hvs.length]
          rfl
        have b := hb s1 (us0 ++ [.ref g0]) I1.kIn hlb
        rw [List.append_nil] at b
        exact b) (hvs.append (show Vals [V.ref g0] [Value.ref g0] from .cons rfl .nil)) ⟨ι1, S1, _, d, S', R3, hargs, ev, fun ι' H' v E R' hv => ⟨ι', E, R', hv⟩⟩
      refine wpAny_call (codeAny_mono run fun r s' hq => ?_)
      rcases r with e | (_ | _ | _ | u)
      · exact hq.elim
      · exact hq.elim
      · exact hq.elim
      · exact hq.elim
      · obtain ⟨v, H', os, bare, un, ok', rv, ι', E4, R4, hv4⟩ := hq
        have Lt := lnt E4
        have same : ∀ a ∈ A, ∀ o, s1.heap.get? a = some o → s'.heap.get? a = some o := fun a ha o ho => obo_get ok' (E4.ext R3 (lend_in ha ho) (obo_no (by
          obtain ⟨_, _, _, o', ho', _, nd⟩ := apart a ha
          rw [ho] at ho'
          cases ho'
          exact nd)))
        have off : ∀ b, H1 b = none → b ∉ A → H3 b = none := fun b q hb => by
          show lendA A s1.heap H1 b = _
          rw [lend_out hb]
          exact q
        have un4 : Un (frs X.stack) [] H1 (dropA A H') s1.heap s'.heap := by
          refine ⟨fun b o q n h1 h2 => ?_, fun b o q n h1 h2 => ?_, fun b o q n h2 => ?_, un.there, fun b ys q => ?_, fun b o u q => ?_, fun b ys q => ?_⟩
          · by_cases hb : b ∈ A
            · exact same b hb o q
            · exact un.keep b o q (off b n hb) h1 h2
          · by_cases hb : b ∈ A
            · exact ⟨o.slots, same b hb o q⟩
            · exact un.slot b o q (off b n hb) h1 h2
          · by_cases hb : b ∈ A
            · exact drop_in hb
            · exact drop_none (un.free b o q (off b n hb) h2)
          · rw [drop_out (out q)]
            exact un.tups b ys (up _ _ q)
          · rw [drop_out (out q)]
            exact un.frzs b o u (up _ _ q)
          · rw [drop_out (out q)]
            exact un.tbls b ys (up _ _ q)
        have I4 := I1.call' os un4 (HOk.drop' ok' Lt) bare (fun b z => by cases z)
        have R5 := R4.drop Lt ok'
        have E5 : Ext ι1 S1 H1 ι' S' (dropA A H') := by
          obtain ⟨new, e1, hnew⟩ := E4.pre
          refine ⟨⟨new, e1, fun a ha o q => hnew a ha o (up _ _ q)⟩, fun a o q nt kk => ?_, E4.fr⟩
          rw [drop_out (out q)]
          exact E4.keep a o (up _ _ q) nt kk
        exact ⟨v, _, I4, rv, g ι' _ v (E1.trans R1 E5) R5 (DV.gen (fun _ _ h => h) Lt.tf _ _ hv4)⟩
    refine wpAny_Call_Name_kw (ld_glob I hg hm ?_ (beq_eq_false_iff_ne.mpr hdb))
    have go := args hp I R Ve ev1
    cases es with
    | nil => exact PySem.W.callWith_K (h₀ := X.base) I.ok.mod.kin hk (thn go body) rfl rfl
    | cons a r =>
      rw [List.all_cons, Bool.and_eq_true] at hs
      exact PySem.W.callWith_K (h₀ := X.base) I.ok.mod.kin hk (thn go body) (star_cons hs.1) (back_any (es := r ++ [Expr.Lambda Im.params Im.body Im.scope lp]) (by rw [List.all_append, hs.2]; rfl))
  · cases ev
end
end PC
end
section
set_option Elab.async false
set_option linter.all false
set_option maxRecDepth 100000
set_option maxHeartbeats 2000000
/-! PC: the law's call at its end, by FnG. -/
namespace PC
open PySem PySem.Spec PyProof.Rows L2
/-- the tables among the addresses -/
abbrev tbs (cs : List (Addr × Addr)) : List Addr := cs.map Prod.snd
/-- what is tracked as the law is called: the script (unless it is the program's own list), the empty tables -/
def Hp0 (K : PySem.W.Frag) (a : Addr) (vs : List Value) (ns : List Int) (cs : List (Addr × Addr)) : Hp := fun b =>
  if b ∈ tbs cs then some (.tbl #[]) else if b = a ∧ K.lookup a = none then some (.frz { cls := .type "list", data := .seq vs.toArray } (.lst (ns.map V.int))) else none
section
variable {P : Program} {w : World} {K : PySem.W.Frag} {mg mb : Str → Option Value} {k : Nat} {fa a : Addr} {cs : List (Addr × Addr)} {fd : FuncData} {x : Str} {sp : List V → Hp → VK → Prop} {s : Shared} {vs : List Value} {ns : List Int}
theorem hp0_tbl {p : Addr × Addr} (hp : p ∈ cs) : Hp0 K a vs ns cs p.2 = some (.tbl #[]) := by
  unfold Hp0
  exact if_pos (List.mem_map.mpr ⟨p, hp, rfl⟩)
/-- an object that is neither a list nor an empty table is not tracked -/
theorem hp0_none (ha : s.heap.get? a = some { cls := .type "list", data := .seq vs.toArray }) (hT : ∀ p ∈ cs, s.heap.get? p.2 = some { cls := .none, data := .fields #[] })
    {b : Addr} {o : Obj} (e : s.heap.get? b = some o) (n1 : ∀ us n, o.data ≠ .seq us n) (n2 : o.data ≠ .fields #[]) : Hp0 K a vs ns cs b = none := by
  unfold Hp0
  split
  · rename_i hb
    obtain ⟨p, hp, rfl⟩ := List.mem_map.mp hb
    rw [hT p hp] at e
    cases e
    exact absurd rfl n2
  · split
    · rename_i hb
      rw [hb.1, ha] at e
      cases e
      exact absurd rfl (n1 _ _)
    · rfl
theorem hp0_ok (ha : s.heap.get? a = some { cls := .type "list", data := .seq vs.toArray }) (hT : ∀ p ∈ cs, s.heap.get? p.2 = some { cls := .none, data := .fields #[] }) (hi : IntsAre vs ns) (hl : ns.length ≤ sizeLine) : HOk P w (Hp0 K a vs ns cs) s.heap := by
  intro b u hu
  unfold Hp0 at hu
  split at hu
  · rename_i hb
    cases hu
    obtain ⟨p, hp, rfl⟩ := List.mem_map.mp hb
    exact hT p hp
  · split at hu
    · rename_i hb
      cases hu
      rw [hb.1]
      exact ⟨ha, by rw [List.length_map]; exact hl, vs, _, vals_ints hi, ha⟩
    · cases hu
theorem hp0_sql (KX : K.In s.heap) (ha : s.heap.get? a = some { cls := .type "list", data := .seq vs.toArray }) (hT : ∀ p ∈ cs, s.heap.get? p.2 = some { cls := .none, data := .fields #[] }) (hi : IntsAre vs ns) (hl : ns.length ≤ sizeLine) :
    (∃ o, Hp0 K a vs ns cs a = some (.frz o (.lst (ns.map V.int)))) ∨ (∃ (o : Obj) (its : Array Value) (n : Nat), K.lookup a = some o ∧ o.cls = .type "list" ∧ o.dict = none ∧ o.data = .seq its n ∧ its.size ≤ sizeLine ∧ Vals (ns.map V.int) its.toList) := by
  cases hk : K.lookup a with
  | some o =>
    have e := KX a o hk
    rw [ha] at e
    cases e
    refine .inr ⟨_, vs.toArray, _, rfl, rfl, rfl, rfl, ?_, by simpa using vals_ints hi⟩
    rw [List.size_toArray, hi.length]
    exact hl
  | none =>
    refine .inl ⟨{ cls := .type "list", data := .seq vs.toArray }, ?_⟩
    unfold Hp0
    rw [if_neg, if_pos ⟨rfl, hk⟩]
    intro hb
    obtain ⟨p, hp, e⟩ := List.mem_map.mp hb
    have q := hT p hp
    rw [show p.2 = a from e, ha] at q
    have z : Data.seq vs.toArray _ = Data.fields #[] := congrArg Obj.data (Option.some.inj q)
    cases z
theorem law_callG (KX : K.In s.heap) (hns : s.heap.Ns mainGlobals mg) (hb : s.heap.Ns builtinsNs mb) (hbb : ∀ y : Str, y ≠ "__name__" → mb y = bootBuiltins y) (lim : s.heap.NoLimit) (hg : s.gens = #[])
    (hT : ∀ p ∈ cs, s.heap.get? p.2 = some { cls := .none, data := .fields #[] }) (nT : ∀ p ∈ cs, K.lookup p.2 = none) (hC : ∀ p ∈ cs, PySem.W.CodeHd s.heap p.1 p.2)
    (hbm : ∃ (bm : Addr) (ob : Obj), mg "__builtins__" = some (.ref bm) ∧ bm ≠ builtinsNs ∧ s.heap.get? bm = some ob ∧ ob.cls = .type "module" ∧ ob.dict = some builtinsNs ∧ ob.data = .plain)
    (ha : s.heap.get? a = some { cls := .type "list", data := .seq vs.toArray }) (hi : IntsAre vs ns) (hl : ns.length ≤ sizeLine) (hr : Room k callerA)
    (F : ∀ base : Heap, K.In base → base.Ns mainGlobals mg → (∀ p ∈ cs, LamX.TabB base mg p.1 p.2) → FnG P w K mg base k fa fd [x] sp) (hbind : ∀ (s : Shared) (u : Value), BindsTo s fd ⟨[u], []⟩ [(x, u)])
    (hsp : sp [.ref a] (Hp0 K a vs ns cs) fun v _ => v = .bl true) :
    codeAny (model P w) callerA (.call (.ref fa) ⟨[.ref a], []⟩) (fun r s' => r = .ok (.ret (.bool true)) ∧ OldK s.heap s'.heap ∧ s'.os = s.os ∧ AllBare s'.gens) s := by
  have hok : HOk P w (Hp0 K a vs ns cs) s.heap := hp0_ok ha hT hi hl
  have left : ∀ {b : Addr} {o : Obj}, s.heap.get? b = some o → (∀ us n, o.data ≠ .seq us n) → o.data ≠ .fields #[] → (hidT s.heap (Hp0 K a vs ns cs)).get? b = some o := fun e n1 n2 => hidT_get e (hp0_none ha hT e n1 n2)
  have spaces : ∀ {b : Addr} {m : Str → Option Value}, s.heap.Ns b m → (hidT s.heap (Hp0 K a vs ns cs)).Ns b m := fun {b m} ⟨o, es, ep, e, d, q⟩ => ⟨o, es, ep, left e (fun us n z => by rw [d] at z; cases z) (fun z => by rw [d] at z; cases z), d, q⟩
  have inK : K.In (hidT s.heap (Hp0 K a vs ns cs)) := fun b o e => hidT_get (KX b o e) (by
    unfold Hp0
    split
    · rename_i hb
      obtain ⟨p, hp, rfl⟩ := List.mem_map.mp hb
      rw [nT p hp] at e
      cases e
    · split
      · rename_i hb
        rw [hb.1, hb.2] at e
        cases e
      · rfl)
  have tabs : ∀ p ∈ cs, LamX.TabB (hidT s.heap (Hp0 K a vs ns cs)) mg p.1 p.2 := fun p hp => by
    refine ⟨?_, ?_, fun z => ?_⟩
    · obtain ⟨o, us, f1, f2, f3, f4, f5, f6, f7, e1, q1, q2, q3⟩ := hC p hp
      refine ⟨o, us, f1, f2, f3, f4, f5, f6, f7, left e1 (fun vs n z => ?_) (fun z => ?_), q1, q2, q3⟩
      · rw [q2] at z
        cases z
      · rw [q2] at z
        cases z
        have q4 := q3.1
        simp at q4
    · obtain ⟨bm, ob, b1, b2, b3, b4, b5, b6⟩ := hbm
      refine ⟨bm, ob, b1, b2, fun q => ?_, fun q => ?_, left b3 (fun vs n z => ?_) (fun z => ?_), b4, b5, b6⟩
      · obtain ⟨o, es, ep, e, d, _⟩ := hns
        rw [q, e] at b3
        cases b3
        rw [d] at b6
        cases b6
      · rw [q, hT p hp] at b3
        cases b3
        cases b6
      · rw [b6] at z
        cases z
      · rw [b6] at z
        cases z
    · obtain ⟨o, es, ep, e, d, _⟩ := hns
      rw [z, hT p hp] at e
      cases e
      cases d
  have around : Env0 P w K mg (hidT s.heap (Hp0 K a vs ns cs)) callerA [] s (Hp0 K a vs ns cs) :=
    ⟨rfl, ⟨inK, spaces hns, ⟨mb, spaces hb, hbb⟩, by obtain ⟨mc, z1, z2⟩ := lim; exact ⟨mc, spaces z1, z2⟩⟩, fun b o e => of_hidT e, Nat.le_of_eq (hidT_size _ _), trivial, fun b z => (by cases z), hok, .of_eq hg⟩
  have go := (F _ inK (spaces hns) tabs).run callerA [] s _ ⟨[.ref a], []⟩ [.ref a] [.ref a] _ hr rfl around (hbind s (.ref a)) (.cons rfl .nil) hsp
  refine codeAny_mono go fun r s' h => ?_
  rcases r with e | (_ | _ | _ | u)
  · exact h.elim
  · exact h.elim
  · exact h.elim
  · exact h.elim
  · obtain ⟨v, H', os, bare, un, hok', rv, q⟩ := h
    cases (show v = .bl true from q)
    cases (show u = Value.bool true from rv)
    have old : ∀ b o, b ∉ tbs cs → s.heap.get? b = some o → s'.heap.get? b = some o := fun b o nb e => by
      by_cases hb : b = a ∧ K.lookup a = none
      · have z : Hp0 K a vs ns cs b = some (.frz { cls := .type "list", data := .seq vs.toArray } (.lst (ns.map V.int))) := by
          unfold Hp0
          rw [if_neg nb, if_pos hb]
        obtain ⟨e1, _⟩ := hok b _ z
        obtain ⟨e2, _⟩ := hok' b _ (un.frzs b _ _ z)
        rw [e] at e1
        cases e1
        exact e2
      · have z : Hp0 K a vs ns cs b = none := by
          unfold Hp0
          rw [if_neg nb, if_neg hb]
        exact un.keep b o e z (fun y => by cases y) (fun y => by cases y)
    have grown : ∀ p ∈ cs, ∃ more : Array Value, s'.heap.get? p.2 = some { cls := .none, data := .fields more } := fun p hp => by
      obtain ⟨more, z⟩ := un.tbls p.2 #[] (hp0_tbl hp)
      exact ⟨_, hok' p.2 _ z⟩
    refine ⟨rfl, ⟨fun b o e => ?_, fun b o e => ?_⟩, os, bare⟩
    · by_cases hb : b ∈ tbs cs
      · obtain ⟨p, hp, rfl⟩ := List.mem_map.mp hb
        obtain ⟨more, hm⟩ := grown p hp
        have e' := e
        rw [hT p hp] at e'
        cases e'
        refine .inr (.inl ⟨((hC p hp).tab (hT p hp)).isCodeTable, rfl, #[], more, rfl, ?_⟩)
        rw [Array.empty_append]
        exact hm
      · exact .inl (old b o hb e)
    · by_cases hb : b ∈ tbs cs
      · obtain ⟨p, hp, rfl⟩ := List.mem_map.mp hb
        obtain ⟨more, hm⟩ := grown p hp
        exact ⟨_, hm⟩
      · exact ⟨o, old b o hb e⟩
end
/-- what is known at the head's heap h -/
def LawG (l : PySem.W.OpenLaw) (w : World) (k n : Nat) (x : Str) (mg : Str → Option Value) (fa : Addr) (h : Heap) : Prop :=
  ∃ (K : PySem.W.Frag) (fd : FuncData) (cs : List (Addr × Addr)) (sp : List V → Hp → VK → Prop), K.In h ∧ (∀ p ∈ cs, h.get? p.2 = some { cls := .none, data := .fields #[] }) ∧ (∀ p ∈ cs, K.lookup p.2 = none) ∧ (∀ p ∈ cs, PySem.W.CodeHd h p.1 p.2) ∧ (∀ (s : Shared) (u : Value), BindsTo s fd ⟨[u], []⟩ [(x, u)]) ∧
    (∀ (a : Addr) (vs : List Value) (ns : List Int), ns.length ≤ n → (∀ z ∈ ns, Builtin.Int.intBits z ≤ 1048576) → ((∃ o, Hp0 K a vs ns cs a = some (.frz o (.lst (ns.map V.int)))) ∨ (∃ (o : Obj) (its : Array Value) (n : Nat), K.lookup a = some o ∧ o.cls = .type "list" ∧ o.dict = none ∧ o.data = .seq its n ∧ its.size ≤ sizeLine ∧ Vals (ns.map V.int) its.toList)) →
      sp [.ref a] (Hp0 K a vs ns cs) fun v _ => v = .bl true) ∧
    ∀ base : Heap, K.In base → base.Ns mainGlobals mg → (∀ p ∈ cs, LamX.TabB base mg p.1 p.2) → FnG l.prog w K mg base k fa fd [x] sp
theorem walk_ofG {l : PySem.W.OpenLaw} {n k : Nat} {q : Program} {loose : List Str} {XP : (Str → Option Value) → Heap → Prop} {YP : World → Heap → Prop} {d : DefRec} {x : Str}
    (hn : l.most = some n) (hn2 : n ≤ sizeLine) (hdf : d.params.defaults = []) (hr : Room k callerA)
    (F : ∀ (w : World) (mg : Str → Option Value) (fa : Addr) (h : Heap), YP w h → h.Ns mainGlobals mg → mg d.name = some (.ref fa) → LawG l w k n x mg fa h) :
    PySem.W.WalkO q loose XP YP l.row.toRowW d [] (fun f vs => PySem.call f vs) := by
  refine Att.attach_callB hn hdf fun w s0 s1 mg mb fa o pm cd doc a vs ns G Y ho hd hcd hmg hobj hints hlen hbits hg => ?_
  obtain ⟨K, fd, cs, sp, KX, hT, nT, hC, hb, hsp, hF⟩ := F w mg fa _ Y G.T.g hmg
  have hl := Nat.le_trans hlen hn2
  exact law_callG KX G.T.g G.T.b G.T.builtins G.T.nolimit hg hT nT hC G.T.bmain hobj hints hl hr hF hb (hsp a vs ns hlen hbits (hp0_sql KX hobj hT hints hl))
end PC
end
section
set_option Elab.async false
set_option linter.all false
set_option maxRecDepth 100000
set_option maxHeartbeats 2000000
/-! PC: from the head's facts to the levels. -/
namespace PC
open PySem L2 He
/-- the keyword-only defaults -/
def DS.kws (d : DS) : List (Str × V) := d.F.dfl.map fun q => (q.1, litV q.2)
theorem dv_lit (K : PySem.W.Frag) (d : D) : (dvOf d).v K = litV d := by cases d <;> rfl
theorem kws_eq (K : PySem.W.Frag) (d : DS) : d.dd.kws K = d.kws := by
  unfold DefD.kws DS.kws
  rw [List.map_map]
  exact List.map_congr_left fun q _ => by show (q.1, (dvOf q.2).v K) = (q.1, litV q.2); rw [dv_lit]
def scopeB (N ps : List Str) (sc : Scope) : Bool :=
  (match sc.kind with | .function => true | _ => false) && !sc.isCoroutine && !sc.isGenerator && decide N.Nodup && decide (N.take ps.length = ps) && ps.all (fun x => decide (sc.names.lookup x = some .local) || decide (sc.names.lookup x = some .cell)) && sc.names.all fun y => match y.2 with | .free => false | _ => true
theorem scopeB_ok {N ps : List Str} {sc : Scope} (h : scopeB N ps sc = true) : FnScope N ps sc := by
  unfold scopeB at h
  simp only [Bool.and_eq_true, Bool.not_eq_true', decide_eq_true_eq, List.all_eq_true, Bool.or_eq_true] at h
  obtain ⟨⟨⟨⟨⟨⟨h1, h2⟩, h3⟩, h4⟩, h5⟩, h6⟩, h7⟩ := h
  refine ⟨?_, h2, h3, h4, h5, h6, fun y hy z => ?_⟩
  · split at h1
    · assumption
    · cases h1
  · have := h7 y hy
    rw [z] at this
    cases this
def nscB' (N ps fr : List Str) (sc : Scope) : Bool := NdefX.nscB N ps fr sc
theorem con_ok {K : PySem.W.Frag} {h : Heap} {mg : Str → Option Value} (X : K.In h) (G : h.Ns mainGlobals mg) {W : Wd} (hW : W.K = K) {x : Str} {d : D} (c : conB K x d = true) : ∃ v u, mg x = some u ∧ RelV v u ∧ ∀ ι H, DV W ι H d v := by
  unfold conB at c
  split at c
  · obtain ⟨t, e⟩ := int_ok X G c
    exact ⟨.int _, _, e, ⟨t, rfl⟩, fun _ _ => rfl⟩
  · obtain ⟨t, e⟩ := str_ok X G c
    exact ⟨.str _, _, e, ⟨t, rfl⟩, fun _ _ => rfl⟩
  · rename_i ds
    simp only [Bool.and_eq_true] at c
    obtain ⟨⟨c1, c2⟩, c3⟩ := c
    refine ⟨.ref _, _, glo_ok X G c1, rfl, fun ι H => ⟨_, _, rfl, by rw [hW]; exact tupB_ok c2 H, ?_⟩⟩
    clear c2
    induction ds with
    | nil => rfl
    | cons d ds ih =>
      rw [List.all_cons, Bool.and_eq_true] at c3
      refine ⟨_, _, rfl, ?_, ih c3.2⟩
      cases d <;> first
        | rfl
        | cases c3.1
  · cases c
/-- the program's defs, compiled -/
def fnsOf (Γ : Gam) (ds : List DS) : List Fn := ds.map fun d => ⟨d.F.ps.length, d.N.length, (cmSs Γ d.N d.m d.n (defScope d.st) (defBody d.st)).getD .nil⟩
/-- how a def binds -/
structure DFact (Γ : Gam) (d : DS) : Prop where
  sc : scopeB d.N d.F.ps (defScope d.st) = true
  dfl : d.F.dfl = [] ∨ ∃ x v, d.F.dfl = [(x, v)]
  bd : d.F.kwo = false → ∀ (kV doc pm : Value) (an : Option Addr) (cdv ct : Value) (us : List Value), us.length = d.F.ps.length → bindArgs (PySem.W.fnOf d.x d.qual (defArgs d.st) (defBody d.st) (defScope d.st) .none kV doc pm an cdv ct) ⟨us, []⟩ = pure (d.F.ps.zip us)
  kb : d.F.dfl = [] → ∀ many ns ix, (d.F.id, many, ns) ∈ Γ.kws → oMap (argIx d.F many ns) d.F.ps.zipIdx = some ix → ∀ (kV doc pm : Value) (an : Option Addr) (cdv ct : Value) (us ws : List Value), us.length = many → ws.length = ns.length →
    ∃ zs, optMap (fun i => (us ++ ws)[i]?) ix = some zs ∧ bindArgs (PySem.W.fnOf d.x d.qual (defArgs d.st) (defBody d.st) (defScope d.st) .none kV doc pm an cdv ct) ⟨us, ns.zip ws⟩ = pure (d.F.ps.zip zs)
  kd : ∀ x v, d.F.dfl = [(x, v)] → ∀ many ns ix, (d.F.id, many, ns) ∈ Γ.kws → oMap (argIx d.F many ns) d.F.ps.zipIdx = some ix → ∀ (D : Addr) (doc pm : Value) (an : Option Addr) (cdv ct : Value) (us ws : List Value) (u : Value), us.length = many → ws.length = ns.length →
    ∃ zs, optMap (fun i => (us ++ ws ++ [u])[i]?) ix = some zs ∧ KwChain D (if x ∈ ns then [] else [(x, u)]) (bindArgs (PySem.W.fnOf d.x d.qual (defArgs d.st) (defBody d.st) (defScope d.st) .none (.ref D) doc pm an cdv ct) ⟨us, ns.zip ws⟩) (d.F.ps.zip zs)
/-- what a def compiles to, and that it is so -/
def CmOk (W : Wd) (Γ : Gam) (P : Prog) (mg : Str → Option Value) (base : Heap) (d : DS) : Prop :=
  ∃ c, P.fns[d.F.id]? = some ⟨d.F.ps.length, d.N.length, c⟩ ∧ ∀ (fd : FuncData) (L : Nat) (X : Cx), FunD W.K d.x d.qual (defArgs d.st) (defBody d.st) (defScope d.st) [] d.kws (fAd W.K d.at_) fd → CxF W Γ d.N (calL P L) (defScope d.st) X → X.mg = mg → X.base = base → (∀ y, X.fn y = true) → (∃ (h : Addr), X.env = PyProof.Rows.envOfC d.qual (defScope d.st) h (fAd W.K d.at_) fd.code) → X.stack = X.env :: X.outer → PSs X (defBody d.st) (rdSs W (calL P L) c)
section
variable {W : Wd} {Γ : Gam} {P : Prog} {mg : Str → Option Value} {base h : Heap} {ds : List DS} {gl : List D}
theorem cm_plain {d : DS} {c : CSs} (hc : cmSs Γ d.N d.m d.n (defScope d.st) (defBody d.st) = some c) (hp : P.fns[d.F.id]? = some ⟨d.F.ps.length, d.N.length, c⟩) : CmOk W Γ P mg base d :=
  ⟨c, hp, fun fd L X _ cx _ _ _ _ _ => cmSs_ok cx hc⟩
theorem dflV_none {K : PySem.W.Frag} {dV : Value} (h : DflV K dV []) : dV = .none := by
  rcases h with ⟨_, e⟩ | ⟨e, _⟩
  · exact e
  · exact absurd rfl e
theorem def_of {fa : List Fa} {d : DS} {ds : List DS} (c : SaysD fa (ds.map DS.dd) W.K) (hd : d ∈ ds) (f1 : DFact Γ d) (hc : CmOk W Γ P mg base d) : ∃ b : DefB W Γ P mg base d.F, b.f = fAd W.K d.at_ := by
  obtain ⟨fd, D⟩ := c.defs (d := d.dd) (List.mem_map.mpr ⟨d, hd, rfl⟩)
  have D' : FunD W.K d.x d.qual (defArgs d.st) (defBody d.st) (defScope d.st) [] d.kws (fAd W.K d.at_) fd := kws_eq W.K d ▸ D
  obtain ⟨cc, hp, hc⟩ := hc
  obtain ⟨oc, od, dV, kV, doc, pm, an, cdv, ct, osl, hfd, lk, hcd, hdv, hkv⟩ := id D'.ex
  have e0 := dflV_none hdv
  subst e0
  refine ⟨⟨fAd W.K d.at_, fd, d.x, d.qual, defArgs d.st, defBody d.st, defScope d.st, d.N, [], d.kws, cc, D', scopeB_ok f1.sc, fun L X cx e1 e2 e3 e4 e5 => hc fd L X D' cx e1 e2 e3 e4 e5, hp, fun hk => D'.bindsN fun kV doc pm an cdv ct us hl => f1.bd hk kV doc pm an cdv ct us hl, fun many ns ix h1 h2 => ?_⟩, rfl⟩
  rcases f1.dfl with e0 | ⟨x, v, e0⟩
  · rw [e0, hfd]
    intro s us ws _ l1 l2
    obtain ⟨zs, q1, q2⟩ := f1.kb e0 many ns ix h1 h2 kV doc pm an cdv ct us ws l1 l2
    exact ⟨[], zs, .nil, by rw [List.append_nil]; exact q1, .of_eq q2⟩
  · have ek : d.kws = [(x, litV v)] := by
      unfold DS.kws
      rw [e0]
      rfl
    rw [e0]
    rcases hkv with z | ⟨D, ekv, hD⟩
    · rw [ek] at z
      cases z
    obtain ⟨u, hu, ru⟩ := hD (x, litV v) (by rw [ek]; exact List.mem_cons_self)
    rw [hfd, ekv]
    intro s us ws X l1 l2
    obtain ⟨zs, q1, q2⟩ := f1.kd x v e0 many ns ix h1 h2 D doc pm an cdv ct us ws u l1 l2
    refine ⟨[u], zs, .cons ru .nil, q1, L2.BindsTo.of_looks fun M => KwChain.looks X (fun q hq => ?_) q2⟩
    split at hq
    · cases hq
    · rw [List.mem_singleton.mp hq]
      exact hu
/-- the classes' table as the text's -/
structure KsOk (W : Wd) (Γ : Gam) (P : Prog) (ds : List DS) (ks : List KS) : Prop where
  tab : P.cls = ks.map fun k => ⟨some k.ini, k.meths⟩
  nc : W.nc = ks.length
  ca : ∀ (c : Nat) k, ks[c]? = some k → W.ca c = ga W.K k.x
  cls : ∀ x c, Γ.cls.lookup x = some c → ∃ k, ks[c]? = some k ∧ k.x = x
  ini : ∀ k ∈ ks, ∃ d ∈ ds, d.ow = some k.x ∧ d.x = "__init__" ∧ d.F.id = k.ini
  mth : ∀ k ∈ ks, ∀ q ∈ k.meths, ∃ d ∈ ds, d.ow = some k.x ∧ d.x = q.1 ∧ d.F.id = q.2
  nk : ∀ d ∈ ds, d.ow ≠ none → d.F.kwo = false
theorem fa_k {Γ : Gam} {ks : List KS} {k : KS} (hk : k ∈ ks) {f : Fa} (h : f ∈ [Fa.glo k.x, Fa.cls k.x, Fa.mkr k.x] ++ (Γ.att.map (Fa.noat k.x) ++ k.meths.map fun q => Fa.meth k.x q.1)) : f ∈ faA Γ ks :=
  List.mem_append_right _ (List.mem_flatMap.mpr ⟨k, hk, h⟩)
theorem at_meth {d : DS} {c : Str} (h : d.ow = some c) : fAd W.K d.at_ = ma W.K (ga W.K c) d.x := by
  unfold DS.at_
  rw [h]
  rfl
/-- an exception's __init__ as it must stand -/
def iniB (Bn : Str) (k : XS) (d : DS) : Bool := cond k.ke ((match defBody d.st with
  | [.Expr (.Call (.Attribute (.Name b p1) m1 p2) [.Name s1 p3, .Name x0 p4] [] p5) p6, .Assign [.Attribute (.Name s2 p7) f p8] (.Name x p9) p10] => decide (b = "KeyError") && (decide (m1 = "__init__") && (decide (s1 = "self") && (decide (s2 = "self") && (decide (f = k.f) && (decide (x = k.y) && (decide (x0 = k.y) && (p2.endLine == p5.line)))))))
  | _ => false) && gloB (defScope d.st) "KeyError") ((match defBody d.st with
  | [.Expr (.Call (.Attribute (.Name b p1) m1 p2) [.Name s1 p3, .Constant (.str m) j p4] [] p5) p6, .Assign [.Attribute (.Name s2 p7) f p8] (.Name x p9) p10] => decide (b = Bn) && (decide (m1 = "__init__") && (decide (s1 = "self") && (decide (s2 = "self") && (decide (f = k.f) && (decide (x = k.y) && (p2.endLine == p5.line))))))
  | _ => false) && (gloB (defScope d.st) Bn && decide (Bn ≠ "__debug__"))) && (visB (defScope d.st) "self" && (visB (defScope d.st) k.y && (decide (k.y ≠ "__debug__") && decide (k.y ≠ "__classdict__"))))
/-- the base's __init__ -/
def iniN (ke : Bool) : String := cond ke "KeyError.__init__" "ValueError.__init__"
theorem glob_of {sc : Scope} {x : Str} (h : gloB sc x = true) : sc.names.lookup x = some .globalImplicit := by
  unfold gloB at h
  split at h
  · assumption
  · cases h
theorem vis_of {sc : Scope} {x : Str} (h : visB sc x = true) : Vis sc x := by
  unfold visB at h
  split at h
  · exact .inl (by assumption)
  · exact .inr (.inl (by assumption))
  · exact .inr (.inr (by assumption))
  · cases h
/-- KeyError's __init__, where the text has a class over it -/
def KeOk (K : PySem.W.Frag) (mg : Str → Option Value) : Prop := mg "KeyError" = none ∧ PySem.W.findCls K (.type "KeyError") (.type "type") "__init__" = some (.val (.builtin "KeyError.__init__"))
theorem ini_of {K : PySem.W.Frag} {mg : Str → Option Value} {Bn : Str} {k : XS} {d : DS} {B fI : Addr} {fd : FuncData} {nm q : Str} {pr : Arguments} {kw : List (Str × V)} (D : FunD K nm q pr (defBody d.st) (defScope d.st) [] kw fI fd) (S : FnScope ["self", k.y] ["self", k.y] (defScope d.st)) (hB : mg Bn = some (.ref B)) (O : OInit K "ValueError.__init__" B) (hk : k.ke = true → KeOk K mg) (h : iniB Bn k d = true)
    (prog : Program) (w : World) (base : Heap) : FnG prog w K mg base 1 fI fd ["self", k.y] (spX K (iniN k.ke) k.f) := by
  unfold iniB at h
  rw [Bool.and_eq_true] at h
  obtain ⟨h, g⟩ := h
  simp only [Bool.and_eq_true] at g
  obtain ⟨g2, g3, g4, g5⟩ := g
  obtain ⟨kx, kf, ky, ke⟩ := k
  cases ke with
  | true =>
    obtain ⟨k1, k2⟩ := hk rfl
    simp only [cond_true, Bool.and_eq_true] at h
    obtain ⟨h, g1⟩ := h
    split at h
    · rename_i b p1 m1 p2 s1 p3 x0 p4 p5 p6 s2 p7 f p8 x p9 p10 hb
      simp only [Bool.and_eq_true, decide_eq_true_eq] at h
      obtain ⟨e1, e2, e3, e4, e5, e6, e8, e7⟩ := h
      rw [hb] at D
      subst e1 e2 e3 e4 e5 e6 e8
      exact init_fnK (L := 0) D S k1 k2 (glob_of g1) (vis_of g2) (vis_of g3) e7 (beq_eq_false_iff_ne.mpr (of_decide_eq_true g4)) (beq_eq_false_iff_ne.mpr (of_decide_eq_true g5)) (fun _ _ => rfl) (fun _ _ => rfl)
    · cases h
  | false =>
    simp only [cond_false, Bool.and_eq_true] at h
    obtain ⟨h, g1, g6⟩ := h
    split at h
    · rename_i b p1 m1 p2 s1 p3 m j p4 p5 p6 s2 p7 f p8 x p9 p10 hb
      simp only [Bool.and_eq_true, decide_eq_true_eq] at h
      obtain ⟨e1, e2, e3, e4, e5, e6, e7⟩ := h
      rw [hb] at D
      subst e1 e2 e3 e4 e5 e6
      exact init_fnG (L := 0) D S hB O (glob_of g1) (vis_of g2) (vis_of g3) (beq_eq_false_iff_ne.mpr (of_decide_eq_true g6)) (beq_eq_false_iff_ne.mpr (of_decide_eq_true g4)) (beq_eq_false_iff_ne.mpr (of_decide_eq_true g5)) e7 (fun _ _ => rfl) (fun _ _ => rfl)
    · cases h
/-- the table of the exceptions' classes as the text's -/
structure XsOk (W : Wd) (Γ : Gam) (Bn : Str) (dx : List DS) (xs : List XS) : Prop where
  xcs : ∀ x c f y, Γ.xcs.lookup x = some (c, f, y) → ∃ ke, xs[c]? = some ⟨x, f, y, ke⟩
  nx : W.nx = xs.length
  xa : ∀ (c : Nat) k, xs[c]? = some k → W.xa c = ga W.K k.x
  ini : ∀ k ∈ xs, k.f ≠ "" → ∃ d ∈ dx, d.ow = some k.x ∧ d.x = "__init__" ∧ d.N = (["self", k.y] : List Str) ∧ d.F.ps = (["self", k.y] : List Str) ∧ d.F.dfl = [] ∧ d.F.kwo = false ∧ (d.F.id, 1, [k.y]) ∈ Γ.kws ∧ oMap (argIx d.F 1 [k.y]) d.F.ps.zipIdx = some [0, 1] ∧ iniB Bn k d = true
theorem oex_ok {ke : Bool} {K : PySem.W.Frag} {C : Addr} (h : oexB ke K C = true) : OexG K (iniN ke) C := by
  unfold oexB at h
  simp only [Bool.and_eq_true, decide_eq_true_eq] at h
  obtain ⟨h, h1, h2, h3, h4⟩ := h
  refine ⟨?_, eqO_ok h1, h2, h3, h4⟩
  unfold oexK at h
  split at h
  · rename_i dd cd sl ho
    split at h
    · rename_i C' bm k0 k1 k2 k3 n k5 hm hs
      simp only [Bool.and_eq_true, beq_iff_eq, Bool.not_eq_true'] at h
      obtain ⟨rfl, hr, hdel, hd⟩ := h
      obtain ⟨nm, bs, mro, ns, qn, hdd, sn, sub, ab, col, del⟩ := cd
      dsimp only at hm hdel hd
      subst hm hdel hd
      have hsl : sl = #[k0, k1, k2, k3, some (.builtin n), k5] := by
        obtain ⟨l⟩ := sl
        simp only at hs
        rw [hs]
      subst hsl
      refine ⟨nm, qn, ns, bs, bm, sn, sub, ab, col, dd, k0, k1, k2, k3, k5, n, ho, ?_⟩
      cases ke with
      | true =>
        simp only [cond_true, Bool.and_eq_true, beq_iff_eq] at hr
        obtain ⟨rfl, rfl⟩ := hr
        exact ⟨PySem.XG.new_KE, PySem.XG.set_KE, PySem.XG.ini_KE⟩
      | false =>
        simp only [cond_false, Bool.and_eq_true, beq_iff_eq] at hr
        obtain ⟨rfl, hr⟩ := hr
        exact ⟨PySem.XG.new_VE hr, PySem.XG.set_VE hr, PySem.XG.ini_VE hr⟩
    · cases h
  · cases h
theorem exc_ok {K : PySem.W.Frag} {C : Addr} (h : excB K C = true) : ExcC K C ∧ XfC K C := by
  unfold excB at h
  simp only [Bool.and_eq_true, decide_eq_true_eq] at h
  obtain ⟨h1, h2, h3, h4, h5, h6, h7, h8⟩ := h
  exact ⟨⟨eqO_ok h1, eqO_ok h2, h3, h4, eqO_ok h5, eqO_ok h6, h7, h8⟩, ⟨eqO_ok h1, eqO_ok h2, h3, h4⟩⟩
theorem oin_ok {K : PySem.W.Frag} {B : Addr} (h : oinB K B = true) : OInit K "ValueError.__init__" B := by
  unfold oinB at h
  simp only [Bool.and_eq_true] at h
  obtain ⟨h1, h2, h3⟩ := h
  refine ⟨eqO_ok h1, h2, ?_, by decide +kernel⟩
  split at h3
  · rename_i n hn
    rw [hn, of_decide_eq_true h3]
  · cases h3
theorem xsB_of {Γ : Gam} {Bn : Str} {xs : List XS} {K : PySem.W.Frag} (h : exX Γ Bn xs K = true) {c : Nat} {k : XS} (hk : xs[c]? = some k) : (Fa.glo k.x).ok K = true ∧ excB K (ga K k.x) = true ∧ (∀ f ∈ Γ.att, PySem.W.findIn K (.ref (ga K k.x)) f = some none) ∧
    cond (decide (k.f = "")) (xsN K k) (xsI Γ K k) = true := by
  unfold exX at h
  simp only [Bool.and_eq_true] at h
  have q := List.all_eq_true.mp h.1 k (List.mem_of_getElem? hk)
  unfold xsB at q
  simp only [Bool.and_eq_true, List.all_eq_true] at q
  obtain ⟨q1, q3, q4, q5⟩ := q
  exact ⟨q1, q3, fun f hf => eqO_ok (q4 f hf), q5⟩
theorem xsI_of {Γ : Gam} {K : PySem.W.Frag} {k : XS} (hf : k.f ≠ "") (h : cond (decide (k.f = "")) (xsN K k) (xsI Γ K k) = true) : oexB k.ke K (ga K k.x) = true ∧ PySem.W.findIn K (.ref (ga K k.x)) k.f = some none ∧
    PySem.W.findIn K (.ref (ga K k.x)) "__init__" = some (some (.ref (ma K (ga K k.x) "__init__"))) ∧ PySem.W.typeIn K (.ref (ma K (ga K k.x) "__init__")) = some (.type "function") := by
  rw [decide_eq_false hf, cond_false] at h
  unfold xsI at h
  simp only [Bool.and_eq_true, decide_eq_true_eq] at h
  obtain ⟨q2, q5, q6, q7⟩ := h
  exact ⟨q2, eqO_ok q5, eqO_ok q6, q7⟩
theorem xa_of {dx : List DS} {xs : List XS} {Bn : Str} (xk : XsOk W Γ Bn dx xs) (xe : exX Γ Bn xs W.K = true) {f : Str} (hf : f ∈ Γ.att) : XaOk W W.K f := fun c hc => by
  rw [xk.nx] at hc
  have hk := List.getElem?_eq_getElem hc
  obtain ⟨q1, q3, q4, q5⟩ := xsB_of xe hk
  rw [xk.xa c _ hk]
  exact ⟨(exc_ok q3).2, q4 f hf⟩
theorem xi_of {dx : List DS} {xs : List XS} {Bn : Str} (X : W.K.In h) (G : h.Ns mainGlobals mg) (xk : XsOk W Γ Bn dx xs) (xe : exX Γ Bn xs W.K = true) {y : Str} {cs : List Nat} (hy : Γ.xis.lookup y = some cs) : XiOk W W.K mg y cs := by
  have q := xe
  unfold exX at q
  simp only [Bool.and_eq_true, List.all_eq_true] at q
  have q1 := q.2.2.2.2 _ (mem_of_lookup hy)
  unfold xisB at q1
  simp only [Bool.and_eq_true, List.all_eq_true, decide_eq_true_eq] at q1
  obtain ⟨q1, q2⟩ := q1
  have kits : ∀ c, c < W.nx → ExcC W.K (W.xa c) ∧ PySem.W.kitOne W.K (.ref (W.xa c)) (xcv W.K y) = some (decide (c ∈ cs)) := fun c hc => by
    rw [xk.nx] at hc
    have hk := List.getElem?_eq_getElem hc
    obtain ⟨w1, w3, w4, w5⟩ := xsB_of xe hk
    rw [xk.xa c _ hk]
    exact ⟨(exc_ok w3).1, q2 (xs[c], c) (by
      rw [List.mem_zipIdx_iff_getElem?]
      exact hk)⟩
  split at q1
  · rename_i a ha
    have e : xcv W.K y = .ref a := by
      unfold xcv
      rw [ha]
    rw [e] at kits
    exact ⟨.ref a, .ref a, .inl (PySem.W.mg_of X G ha), rfl, fun u r => r, kits⟩
  · rename_i ha
    split at q1
    · rename_i t ht
      have e : xcv W.K y = .type t := by
        unfold xcv
        rw [ha, ht]
        rfl
      rw [e] at kits
      exact ⟨.ty t, .type t, .inr ⟨PySem.W.mg_none_of X G ha, ht, of_decide_eq_true q1⟩, rfl, fun u r => r, kits⟩
    · cases q1
  · cases q1
theorem xc_of {ks : List KS} {dx : List DS} {xs : List XS} {Bn : Str} (X : W.K.In h) (G : h.Ns mainGlobals mg) (c : SaysD (faA Γ ks) ((ds ++ dx).map DS.dd) W.K) (xk : XsOk W Γ Bn dx xs) (xe : exX Γ Bn xs W.K = true) (dfx : ∀ d ∈ dx, DFact Γ d)
    {x f y : Str} {cc : Nat} (hx : Γ.xcs.lookup x = some (cc, f, y)) (hf : f ≠ "") {prog : Program} {w : World} : XcOk W prog w W.K mg base cc x f y := by
  obtain ⟨ke, hk⟩ := xk.xcs _ _ _ _ hx
  obtain ⟨q1, q3, q4, q8⟩ := xsB_of xe hk
  obtain ⟨q2, q5, q6, q7⟩ := xsI_of hf q8
  have ha := xk.xa _ _ hk
  obtain ⟨d, hd, o1, o2, o3, o4, o5, o6, o7, o8, o9⟩ := xk.ini _ (List.mem_of_getElem? hk) hf
  have q := xe
  unfold exX at q
  simp only [Bool.and_eq_true] at q
  have F1 := dfx d hd
  obtain ⟨fd, D⟩ := c.defs (d := d.dd) (List.mem_map.mpr ⟨d, List.mem_append_right _ hd, rfl⟩)
  have D' : FunD W.K d.x d.qual (defArgs d.st) (defBody d.st) (defScope d.st) [] d.kws (fAd W.K d.at_) fd := kws_eq W.K d ▸ D
  have hat : fAd W.K d.at_ = ma W.K (ga W.K x) "__init__" := by rw [at_meth o1, o2]
  have S := scopeB_ok F1.sc
  rw [o3, o4] at S
  have kk : ke = true → KeOk W.K mg := fun e => by
    subst e
    have q9 := q.2.2.2.1
    rw [show xs.any XS.ke = true from List.any_eq_true.mpr ⟨_, List.mem_of_getElem? hk, rfl⟩, cond_true] at q9
    unfold keB at q9
    rw [Bool.and_eq_true] at q9
    refine ⟨free_ok X G q9.1, ?_⟩
    have q9 := q9.2
    split at q9
    · rename_i n hn
      rw [hn, of_decide_eq_true q9]
    · cases q9
  have run := ini_of (k := ⟨x, f, y, ke⟩) (B := ga W.K Bn) D' S (glo_ok X G q.2.1) (oin_ok q.2.2.1) kk o9 prog w base
  obtain ⟨oc, od, dV, kV, doc, pm, an, cdv, ct, osl, hfd, lk, hcd, hdv, hkv⟩ := id D'.ex
  have e0 := dflV_none hdv
  subst e0
  refine ⟨by rw [xk.nx]; exact (List.getElem?_eq_some_iff.mp hk).1, by rw [ha]; exact glo_ok X G q1, by rw [ha]; exact q5, iniN ke, ma W.K (ga W.K x) "__init__", fd, by rw [ha]; exact oex_ok q2, by rw [ha]; exact q6, q7, hat ▸ run, ?_, fun s u a _ => ?_⟩
  · have b := D'.bindsN (ps := d.F.ps) fun kV doc pm an cdv ct us hl => F1.bd o6 kV doc pm an cdv ct us hl
    rw [o4] at b
    exact b
  · obtain ⟨zs, z1, z2⟩ := F1.kb o5 1 [y] [0, 1] o7 o8 kV doc pm an cdv ct [.ref a] [u] rfl rfl
    have ez : zs = [.ref a, u] := by
      have : optMap (fun i => ([Value.ref a] ++ [u])[i]?) [0, 1] = some [.ref a, u] := rfl
      rw [this] at z1
      exact (Option.some.inj z1).symm
    rw [ez, o4] at z2
    rw [hfd]
    exact .of_eq z2
theorem xn_of {dx : List DS} {xs : List XS} {Bn : Str} (X : W.K.In h) (G : h.Ns mainGlobals mg) (xk : XsOk W Γ Bn dx xs) (xe : exX Γ Bn xs W.K = true) {x y : Str} {cc : Nat} (hx : Γ.xcs.lookup x = some (cc, ("" : Str), y)) : XnOk W W.K mg cc x := by
  obtain ⟨ke, hk⟩ := xk.xcs _ _ _ _ hx
  obtain ⟨q1, q3, q4, q8⟩ := xsB_of xe hk
  rw [show decide ((⟨x, "", y, ke⟩ : XS).f = "") = true from rfl, cond_true] at q8
  unfold xsN at q8
  rw [Bool.and_eq_true] at q8
  have ha := xk.xa _ _ hk
  exact ⟨by rw [xk.nx]; exact (List.getElem?_eq_some_iff.mp hk).1, by rw [ha]; exact glo_ok X G q1, by rw [ha]; exact q8.1, by rw [ha]; exact q8.2⟩
theorem glo_of {ks : List KS} {dx : List DS} {xs : List XS} {Bn : Str} (X : W.K.In h) (G : h.Ns mainGlobals mg) (c : SaysD (faA Γ ks) ((ds ++ dx).map DS.dd) W.K) (ex : exOf Γ gl W.K = true) (hP : P.glos = gl) (hG : Γ.fns = (ds.filter fun d => d.ow.isNone).map fun d => (d.x, d.F)) (df : ∀ d ∈ ds, DFact Γ d) (cm : ∀ d ∈ ds, CmOk W Γ P mg base d) (lms : ∀ l I, W.lm l = some I → LmOk W Γ P l I) (kk : KsOk W Γ P ds ks) (xk : XsOk W Γ Bn dx xs) (xe : exX Γ Bn xs W.K = true) (dfx : ∀ d ∈ dx, DFact Γ d) : Glo W Γ P mg base := by
  have hk : ∀ (c : Nat) K, P.cls[c]? = some K → ∃ k, ks[c]? = some k ∧ K = ⟨some k.ini, k.meths⟩ := fun c K hK => by
    rw [kk.tab, List.getElem?_map] at hK
    obtain ⟨k, h1, h2⟩ := Option.map_eq_some_iff.mp hK
    exact ⟨k, h1, h2.symm⟩
  have att : ∀ f ∈ Γ.att, AttOk W W.K f := fun f hf cc hc => by
    have hl : cc < ks.length := by rw [← kk.nc]; exact hc
    have hq : ks[cc]? = some ks[cc] := List.getElem?_eq_getElem hl
    have hm : ks[cc] ∈ ks := List.getElem_mem hl
    rw [kk.ca _ _ hq]
    exact ⟨cls_ok (c.facts (fa_k hm (by simp))), noat_ok (c.facts (fa_k hm (List.mem_append_right _ (List.mem_append_left _ (List.mem_map.mpr ⟨f, hf, rfl⟩)))))⟩
  refine ⟨fun x g hx => ?_, fun x F hx => ?_, fun x hx hf => ?_, lms, fun cc K hK => ?_, fun x cc hx => ?_, att, fun cc m id hK => ?_, fun x cc y hx => xn_of X G xk xe hx, fun x cc f y hx hf prog w => xc_of X G c xk xe dfx hx hf, fun y cs hy => xi_of X G xk xe hy, fun f hf => xa_of xk xe hf⟩
  · have q := List.all_eq_true.mp ex _ (mem_of_lookup hx)
    simp only at q
    split at q
    · rename_i d hd
      obtain ⟨v, u, q1, q2, q3⟩ := con_ok X G (W := W) rfl q
      exact ⟨d, v, u, by rw [hP]; exact hd, q1, q2, q3⟩
    · cases q
  · have hm := mem_of_lookup hx
    rw [hG] at hm
    obtain ⟨d, hd, e⟩ := List.mem_map.mp hm
    cases e
    obtain ⟨hd, ho⟩ := List.mem_filter.mp hd
    obtain ⟨b, hb⟩ := def_of c (List.mem_append_left _ hd) (df d hd) (cm d hd)
    have ha : fAd W.K d.at_ = ga W.K d.x := by
      unfold DS.at_
      cases e : d.ow with
      | none => rfl
      | some z =>
        rw [e] at ho
        cases ho
    refine ⟨⟨b, ?_⟩⟩
    rw [hb, ha]
    exact glo_ok X G (c.facts (f := .glo d.x) (List.mem_append_left _ (List.mem_append_left _ (List.mem_map.mpr ⟨(d.x, d.F), hG ▸ hm, rfl⟩))))
  · exact free_ok X G (c.facts (f := .free x) (List.mem_append_left _ (List.mem_append_right _ (List.mem_map.mpr ⟨x, List.mem_filter.mpr ⟨hx, hf⟩, rfl⟩))))
  · obtain ⟨k, h1, _⟩ := hk cc K hK
    rw [kk.nc]
    exact (List.getElem?_eq_some_iff.mp h1).1
  · obtain ⟨k, h1, rfl⟩ := kk.cls x cc hx
    have hm := List.mem_of_getElem? h1
    obtain ⟨d, hd, e1, e2, e3⟩ := kk.ini k hm
    obtain ⟨b, hb⟩ := def_of c (List.mem_append_left _ hd) (df d hd) (cm d hd)
    rw [at_meth e1, e2] at hb
    rw [kk.ca _ _ h1]
    refine ⟨glo_ok X G (c.facts (fa_k hm (by simp))), k.meths, d.F, b, ?_, ?_⟩
    · rw [kk.tab, List.getElem?_map, h1, e3]
      rfl
    · rw [hb]
      exact ⟨mkr_ok (c.facts (fa_k hm (by simp))), kk.nk d hd (by rw [e1]; exact nofun)⟩
  · obtain ⟨K, hK1, hK2⟩ := hK
    obtain ⟨k, h1, rfl⟩ := hk cc K hK1
    have hm := List.mem_of_getElem? h1
    have hq := mem_of_lookup hK2
    obtain ⟨d, hd, e1, e2, e3⟩ := kk.mth k hm _ hq
    obtain ⟨b, hb⟩ := def_of c (List.mem_append_left _ hd) (df d hd) (cm d hd)
    rw [at_meth e1, e2] at hb
    rw [kk.ca _ _ h1]
    refine ⟨d.F, b, e3, cls_ok (c.facts (fa_k hm (by simp))), ?_⟩
    rw [hb]
    exact ⟨meth_ok (c.facts (fa_k hm (List.mem_append_right _ (List.mem_append_right _ (List.mem_map.mpr ⟨_, hq, rfl⟩))))), kk.nk d hd (by rw [e1]; exact nofun)⟩
end
end PC
end
section
set_option Elab.async false
set_option linter.all false
set_option maxRecDepth 100000
set_option maxHeartbeats 4000000
/-! PC: one exception's way, from raise to its clause. -/
namespace PC
open PySem PySem.Spec PyProof.Rows L2
theorem CxS.tr {W : Wd} {Γ : Gam} {N : List Str} {C : Cal} {sc : Scope} {X : Cx} (cx : CxS W Γ N C sc X) (pn : List (Addr × Obj)) (xe : Value → Shared → Prop) : CxS W Γ N C sc (X.tr pn xe) :=
  ⟨cx.hN, cx.nd, cx.hsc, cx.calm, cx.hK, cx.hw, cx.hgd, cx.hu, cx.con, cx.fns, cx.free, cx.lam, cx.cP, cx.cls, cx.att, cx.mth, cx.hr2, cx.xns, cx.xcs, cx.xis, cx.xat⟩
/-- .. its base's __init__ named -/
def XcI (W : Wd) (P : Program) (w : World) (K : PySem.W.Frag) (mg : Str → Option Value) (base : Heap) (ini : String) (c : Nat) (f y : Str) : Prop := ∃ (fI : Addr) (fd : FuncData), OexG K ini (W.xa c) ∧ PySem.W.findIn K (.ref (W.xa c)) "__init__" = some (some (.ref fI)) ∧ PySem.W.typeIn K (.ref fI) = some (.type "function") ∧ FnG P w K mg base 1 fI fd ["self", y] (spX K ini f) ∧ Binds K fd ["self", y] [] ∧
    ∀ (s : Shared) (u : Value) (a : Addr), K.In s.heap → BindsTo s fd ⟨[.ref a], [(y, u)]⟩ ((["self", y] : List Str).zip [.ref a, u])
section
variable {ini : String} {W : Wd} {X : Cx} {c i j : Nat} {x y f n : Str} {p p1 p2 p3 pos kp : Pos} {e : Expr} {te : TE}
/-- what a raise of the class C wishes, the thing by te -/
def tRz (K : PySem.W.Frag) (ini : String) (C : Addr) (f : Str) (te : TE) (Wx : WX) : TS := fun _ σ H => tRsE C (spX K ini f) (tCons te tNil) σ H fun cls d H' => Wx cls d σ H'
theorem ps_rs (O1 : XcOk W X.prog X.w X.K X.mg X.base c x f y) (O : XcI W X.prog X.w X.K X.mg X.base ini c f y) (hc : X.calm = true) (hr : Room 2 X.A) (hgd : X.A.guards = some []) {Wx : WX} (tk : L2N.Takes X Wx) (hg : Gl X x) (he : PE X e te) (hs : notStar e = true) (hdb : (x == ("__debug__" : Str)) = false) :
    PS X (.Raise (some (.Call (.Name x p) [e] [] p1)) none p2) (tRz X.K ini (W.xa c) f te Wx) := by
  obtain ⟨fI, fd, oT, o1, o2, o3, o4, o5⟩ := O
  exact L2N.ps_raise hc tk (pmk_x oT o1 o2 o3 hr hgd hg O1.gl o4 (show 2 ≤ 1000 by decide) (pa_cons he pa_nil (star_cons hs)) (by simp [hs]) hdb)
theorem ps_rsk (O1 : XcOk W X.prog X.w X.K X.mg X.base c x f y) (O : XcI W X.prog X.w X.K X.mg X.base ini c f y) (hc : X.calm = true) (hr : Room 2 X.A) (hgd : X.A.guards = some []) {Wx : WX} (tk : L2N.Takes X Wx) (hg : Gl X x) (he : PE X e te) (hdb : (x == ("__debug__" : Str)) = false) :
    PS X (.Raise (some (.Call (.Name x p) [] [⟨some y, e, kp⟩] p1)) none p2) (tRz X.K ini (W.xa c) f te Wx) := by
  obtain ⟨fI, fd, oT, o1, o2, o3, o4, o5⟩ := O
  exact L2N.ps_raise hc tk (pmk_xk oT o1 o2 o3 hr hgd hg O1.gl rfl o5 he hdb)
/-- .. is what the clauses wish, at the dict that stands behind it -/
theorem rz_of {K : PySem.W.Frag} {C : Addr} {Wx : WX} {D : Ends} {σ : L2.St} {H : Hp} {v : V} (T : OexG K ini C) (no : PySem.W.findIn K (.ref C) f = some none) (h : te σ H fun u H1 => u = v ∧ H1 = H) (mono : ∀ Q : VK, (∀ u H1, u = v ∧ H1 = H → Q u H1) → (te σ H fun u H1 => u = v ∧ H1 = H) → te σ H Q)
    (k : ∀ dx, H dx = none → Wx (.ref C) (some dx) σ (upd H dx (.xd [(f, v)]))) : tRz K ini C f te Wx D σ H := by
  refine mono _ (fun u H1 q => ?_) h
  obtain ⟨rfl, rfl⟩ := q
  refine fun a ha => ⟨a, C, u, rfl, T, no, upd_same, fun dx hd ne => ⟨rfl, dx, [(f, u)], upd_same, by rw [upd_ne ne, upd_same], by rwa [upd_ne ne] at hd, ?_⟩⟩
  have hd1 : H1 dx = none := by rwa [upd_ne ne] at hd
  have eH : upd (del (upd (upd (upd H1 a (exo a C none)) dx (exd dx [(f, u)])) a (exo a C (some dx))) a) dx (.xd [(f, u)]) = upd H1 dx (.xd [(f, u)]) := by
    funext b
    by_cases h2 : b = dx
    · rw [h2, upd_same, upd_same]
    · rw [upd_ne h2, upd_ne h2]
      by_cases h1 : b = a
      · rw [h1, del_same, ha]
      · rw [del_ne h1, upd_ne h1, upd_ne h2, upd_ne h1]
  rw [eH]
  exact k dx hd1
theorem rz_var {K : PySem.W.Frag} {C : Addr} {Wx : WX} {D : Ends} {σ : L2.St} {H : Hp} {v : V} (T : OexG K ini C) (no : PySem.W.findIn K (.ref C) f = some none) (hv : σ[j]? = some (some v))
    (k : ∀ dx, H dx = none → Wx (.ref C) (some dx) σ (upd H dx (.xd [(f, v)]))) : tRz K ini C f (tVar j) Wx D σ H :=
  rz_of T no ⟨v, hv, rfl, rfl⟩ (fun Q q ⟨u, h1, h2⟩ => ⟨u, h1, q u H h2⟩) k
end
end PC
end
section
set_option Elab.async false
set_option linter.all false
set_option maxRecDepth 100000
set_option maxHeartbeats 0
namespace K05
open PySem PC
def c0_2 : CSs := .cons (.ret (.lstE (.cons (.rev (.var 1)) (.cons (.var 2) (.cons (.int (0)) .nil))))) .nil
def c0b0 : CSs := .cons (.set (.name 2) (.bin .Mod (.bin .Add (.bin .Add (.bin .Mult (.var 2) (.int (16807))) (.bin .Mod (.var 3) (.int (2147483563)))) (.int (3))) (.int (2147483647)))) .nil
def c0_1 : CSs := .cons (.for_ (.name 3) .val (.cons (.var 1) .nil) c0b0) c0_2
def c0 : CSs := .cons (.set (.tup [1, 2]) (.tupE (.cons (.col .val (.cons (.slc (.var 0) .no (.so (.int (63)))) .nil)) (.cons (.int (8191)) .nil)))) c0_1
def c1_5 : CSs := .cons (.ret (.bin .Mod (.bin .FloorDiv (.bin .Mod (.bin .Add (.bin .Mult (.var 3) (.var 3)) (.bin .Mult (.int (16807)) (.var 3))) (.int (2147483549))) (.int (32))) (.var 1))) .nil
def c1_4 : CSs := .cons (.set (.name 3) (.bin .Mod (.bin .Add (.bin .Add (.bin .Mult (.var 3) (.var 3)) (.bin .Mult (.int (48271)) (.idx (.var 0) (.int (2))))) (.int (11))) (.int (2147483647)))) c1_5
def c1_3 : CSs := .cons (.set (.name 3) (.bin .Mod (.bin .Mult (.bin .Add (.bin .Add (.bin .Mod (.var 2) (.int (2147483629))) (.bin .Mult (.int (40961)) (.idx (.var 0) (.int (2))))) (.int (7))) (.int (69621))) (.int (2147483587)))) c1_4
def c1_2 : CSs := .cons (.ifS (.cmp .NotEq (.idx (.var 0) (.int (0))) (.lstE .nil)) (.cons (.set (.name 2) (.meth (.idx (.var 0) (.int (0))) "pop" .nil)) (.cons (.ifS (.cmp .GtE (.var 2) (.bin .Pow (.int (10)) (.int (18)))) (.cons (.exp (.meth (.idx (.var 0) (.int (0))) "append" (.cons (.bin .FloorDiv (.var 2) (.var 1)) .nil))) (.cons (.ret (.bin .Mod (.var 2) (.var 1))) .nil)) .nil) (.cons (.set (.name 2) (.bin .Add (.var 2) (.idx (.var 0) (.int (1))))) .nil))) .nil) c1_3
def c1_1 : CSs := .cons (.set (.name 2) (.idx (.var 0) (.int (1)))) c1_2
def c1 : CSs := .cons (.setI (.var 0) (.int (2)) (.bin .Add (.idx (.var 0) (.int (2))) (.int (1)))) c1_1
def c2 : CSs := .cons (.ret (.idx (.var 1) (.call 1 (.cons (.var 0) (.cons (.bi .len (.cons (.var 1) .nil)) .nil)) []))) .nil
def c3_2 : CSs := .cons (.ret (.call 2 (.cons (.var 0) (.cons (.lstE (.cons (.var 1) (.cons (.var 3) (.cons (.tupE (.cons (.var 1) (.cons (.var 3) .nil))) (.cons .non (.cons (.tupE .nil) (.cons (.bin .Add (.bin .Add (.var 1) (.str " ")) (.var 1)) .nil))))))) .nil)) [])) .nil
def c3_1 : CSs := .cons (.set (.name 3) (.bin .Sub (.call 1 (.cons (.var 0) (.cons (.int (100)) .nil)) []) (.int (50)))) c3_2
def c3 : CSs := .cons (.set (.name 1) (.meth (.str "") "join" (.cons (.lc (.call 2 (.cons (.var 0) (.cons (.str "abcdefghijklmnopqrstuvwxyz") .nil)) []) (.name 2) .range (.cons (.call 1 (.cons (.var 0) (.cons (.int (9)) .nil)) []) .nil) .nil [2]) .nil))) c3_1
def c4_4 : CSs := .cons (.ret (.lc (.var 2) (.tup [2, 3]) .enum (.cons (.var 1) .nil) (.cons (.var 3) .nil) [2, 3])) .nil
def c4_3 : CSs := .cons (.set (.name 1) (.bin .Add (.var 1) (.lstE (.cons (.isx (.var 0) [10]) (.cons (.isx (.var 0) [11]) .nil))))) c4_4
def c4_2 : CSs := .cons (.set (.name 1) (.bin .Add (.var 1) (.lstE (.cons (.isx (.var 0) [7]) (.cons (.isx (.var 0) [8]) (.cons (.isx (.var 0) [9]) .nil)))))) c4_3
def c4_1 : CSs := .cons (.set (.name 1) (.bin .Add (.var 1) (.lstE (.cons (.isx (.var 0) [4]) (.cons (.isx (.var 0) [5]) (.cons (.isx (.var 0) [6]) .nil)))))) c4_2
def c4 : CSs := .cons (.set (.name 1) (.lstE (.cons (.isx (.var 0) [0]) (.cons (.isx (.var 0) [1]) (.cons (.isx (.var 0) [2]) (.cons (.isx (.var 0) [3]) .nil)))))) c4_1
def c5 : CSs := .cons (.ret (.lstE (.cons (.isx (.var 0) [0, 1, 2, 3, 4, 5, 6, 7, 8, 9, 10, 12]) (.cons (.isx (.var 0) [0, 1, 2, 3, 4, 5, 6, 7, 8, 9, 10, 12]) (.cons (.isx (.var 0) [11]) .nil))))) .nil
def c6_3 : CSs := .cons (.ret (.bin .Add (.var 1) (.lstE (.cons (.tupE (.cons (.int (11)) (.cons (.attr (.mkx 11 "name" (.var 0)) "name") (.cons (.attr (.mkx 11 "name" (.var 0)) "name") .nil)))) .nil)))) .nil
def c6_2 : CSs := .cons (.set (.name 1) (.bin .Add (.var 1) (.lstE (.cons (.tupE (.cons (.int (9)) (.cons (.attr (.mkx 9 "name" (.var 0)) "name") (.cons (.attr (.mkx 9 "name" (.var 0)) "name") .nil)))) (.cons (.tupE (.cons (.int (10)) (.cons (.attr (.mkx 10 "run" (.var 0)) "run") (.cons (.attr (.mkx 10 "run" (.var 0)) "run") .nil)))) .nil))))) c6_3
def c6_1 : CSs := .cons (.set (.name 1) (.bin .Add (.var 1) (.lstE (.cons (.tupE (.cons (.int (7)) (.cons (.attr (.mkx 7 "name" (.var 0)) "name") (.cons (.attr (.mkx 7 "name" (.var 0)) "name") .nil)))) (.cons (.tupE (.cons (.int (8)) (.cons (.attr (.mkx 8 "name" (.var 0)) "name") (.cons (.attr (.mkx 8 "name" (.var 0)) "name") .nil)))) .nil))))) c6_2
def c6 : CSs := .cons (.set (.name 1) (.lstE (.cons (.tupE (.cons (.int (5)) (.cons (.attr (.mkx 5 "door" (.var 0)) "door") (.cons (.attr (.mkx 5 "door" (.var 0)) "door") .nil)))) (.cons (.tupE (.cons (.int (6)) (.cons (.attr (.mkx 6 "place" (.var 0)) "place") (.cons (.attr (.mkx 6 "place" (.var 0)) "place") .nil)))) .nil)))) c6_1
def c7_1 : CSs := .cons (.ret (.bin .Add (.var 2) (.lstE (.cons (.mkx 7 "name" (.var 0)) (.cons (.mkx 8 "name" (.var 0)) (.cons (.mkx 9 "name" (.var 0)) (.cons (.mkx 10 "run" (.var 0)) (.cons (.mkx 11 "name" (.var 0)) .nil)))))))) .nil
def c7 : CSs := .cons (.set (.name 2) (.lstE (.cons (.mkn 0 (.var 1)) (.cons (.mkn 1 (.var 1)) (.cons (.mkn 2 (.var 1)) (.cons (.mkn 3 (.var 1)) (.cons (.mkn 4 (.var 1)) (.cons (.mkx 5 "door" (.var 0)) (.cons (.mkx 6 "place" (.var 0)) .nil))))))))) c7_1
def c8 : CSs := .cons (.set (.name 1) (.lstE .nil)) (.cons (.exp (.meth (.var 1) "append" (.cons (.tupE (.cons (.lstE (.cons (.int (5)) .nil)) (.cons (.bi .repr (.cons (.var 0) .nil)) .nil))) .nil))) (.cons (.exp (.meth (.var 1) "append" (.cons (.tupE (.cons (.lstE (.cons (.int (11)) .nil)) (.cons (.bi .repr (.cons (.var 0) .nil)) .nil))) .nil))) (.cons (.exp (.meth (.var 1) "append" (.cons (.tupE (.cons (.lstE (.cons (.int (10)) .nil)) (.cons (.bi .repr (.cons (.var 0) .nil)) .nil))) .nil))) (.cons (.ret (.var 1)) .nil))))
def c9_2 : CSs := .cons (.ret (.bl true)) .nil
def c9b0_6 : CSs := .cons (.ifS (.orE (.cmp .NotEq (.bi .repr (.cons (.call 5 (.cons (.mkn 12 (.var 4)) .nil) []) .nil)) (.bi .repr (.cons (.lstE (.cons (.bl true) (.cons (.bl true) (.cons (.bl false) .nil)))) .nil))) (.cmp .NotEq (.call 4 (.cons (.mkn 12 (.var 4)) .nil) []) (.lstE .nil))) (.cons (.ret (.bl false)) .nil) .nil) .nil
def c9b0_5 : CSs := .cons (.ifS (.cmp .NotEq (.call 8 (.cons (.var 3) .nil) []) (.lc (.tupE (.cons (.lstE (.cons (.var 7) .nil)) (.cons (.bi .repr (.cons (.var 3) .nil)) .nil))) (.name 7) .val (.cons (.tupE (.cons (.int (5)) (.cons (.int (11)) (.cons (.int (10)) .nil)))) .nil) .nil [7])) (.cons (.ret (.bl false)) .nil) .nil) c9b0_6
def c9b0_4 : CSs := .cons (.ifS (.cmp .NotEq (.bi .repr (.cons (.call 6 (.cons (.var 3) .nil) []) .nil)) (.bi .repr (.cons (.lc (.tupE (.cons (.var 7) (.cons (.var 3) (.cons (.var 3) .nil)))) (.name 7) .range (.cons (.int (5)) (.cons (.int (12)) .nil)) .nil [7]) .nil))) (.cons (.ret (.bl false)) .nil) .nil) c9b0_5
def c9b0_3 : CSs := .cons (.ifS (.cmp .NotEq (.lc (.call 5 (.cons (.var 6) .nil) []) (.name 6) .val (.cons (.var 5) .nil) .nil [6]) (.bin .Add (.bin .Mult (.lstE (.cons (.lstE (.cons (.bl true) (.cons (.bl true) (.cons (.bl false) .nil)))) .nil)) (.int (11))) (.lstE (.cons (.lstE (.cons (.bl false) (.cons (.bl false) (.cons (.bl true) .nil)))) .nil)))) (.cons (.ret (.bl false)) .nil) .nil) c9b0_4
def c9b0_2 : CSs := .cons (.ifS (.cmp .NotEq (.lc (.call 4 (.cons (.var 6) .nil) []) (.name 6) .val (.cons (.var 5) .nil) .nil [6]) (.lc (.lstE (.cons (.var 7) .nil)) (.name 7) .range (.cons (.int (12)) .nil) .nil [7])) (.cons (.ret (.bl false)) .nil) .nil) c9b0_3
def c9b0_1 : CSs := .cons (.set (.name 5) (.call 7 (.cons (.var 3) (.cons (.var 4) .nil)) [])) c9b0_2
def c9b0 : CSs := .cons (.set (.tup [3, 4]) (.tupE (.cons (.call 3 (.cons (.var 1) .nil) []) (.cons (.bin .Add (.str "no ") (.bi .repr (.cons (.call 3 (.cons (.var 1) .nil) []) .nil))) .nil)))) c9b0_1
def c9_1 : CSs := .cons (.for_ (.name 2) .range (.cons (.int (8)) .nil) c9b0) c9_2
def c9 : CSs := .cons (.set (.name 1) (.call 0 (.cons (.var 0) .nil) [])) c9_1

def fnl : List Fn := [⟨d0.F.ps.length, n0.length, c0⟩, ⟨d1.F.ps.length, n1.length, c1⟩, ⟨d2.F.ps.length, n2.length, c2⟩, ⟨d3.F.ps.length, n3.length, c3⟩, ⟨d4.F.ps.length, n4.length, c4⟩, ⟨d5.F.ps.length, n5.length, c5⟩, ⟨d6.F.ps.length, n6.length, c6⟩, ⟨d7.F.ps.length, n7.length, c7⟩, ⟨d8.F.ps.length, n8.length, c8⟩, ⟨d9.F.ps.length, n9.length, c9⟩]
def prog : Prog := ⟨fnl, [], ks.map fun k => ⟨some k.ini, k.meths⟩, glos⟩
theorem cm0 : cmSs gam d0.N d0.m d0.n (L2.defScope d0.st) (L2.defBody d0.st) = some c0 := by kernel_rfl
theorem cm1 : cmSs gam d1.N d1.m d1.n (L2.defScope d1.st) (L2.defBody d1.st) = some c1 := by kernel_rfl
theorem cm2 : cmSs gam d2.N d2.m d2.n (L2.defScope d2.st) (L2.defBody d2.st) = some c2 := by kernel_rfl
theorem cm3 : cmSs gam d3.N d3.m d3.n (L2.defScope d3.st) (L2.defBody d3.st) = some c3 := by kernel_rfl
theorem cm4 : cmSs gam d4.N d4.m d4.n (L2.defScope d4.st) (L2.defBody d4.st) = some c4 := by kernel_rfl
theorem cm5 : cmSs gam d5.N d5.m d5.n (L2.defScope d5.st) (L2.defBody d5.st) = some c5 := by kernel_rfl
theorem cm6 : cmSs gam d6.N d6.m d6.n (L2.defScope d6.st) (L2.defBody d6.st) = some c6 := by kernel_rfl
theorem cm7 : cmSs gam d7.N d7.m d7.n (L2.defScope d7.st) (L2.defBody d7.st) = some c7 := by kernel_rfl
theorem cm9 : cmSs gam d9.N d9.m d9.n (L2.defScope d9.st) (L2.defBody d9.st) = some c9 := by kernel_rfl
end K05
end
section
set_option Elab.async false
set_option linter.all false
set_option maxRecDepth 100000
set_option maxHeartbeats 0
namespace K05
open PySem PC L2
theorem kws_eq0 : gam.kws = ([(10, 1, (["door"] : List Str)), (11, 1, (["place"] : List Str)), (12, 1, (["name"] : List Str)), (13, 1, (["name"] : List Str)), (14, 1, (["name"] : List Str)), (15, 1, (["run"] : List Str)), (16, 1, (["name"] : List Str))] : List (Nat × Nat × List Str)) := rfl
theorem kb_no {d : DS} {X : Nat → List Str → List Nat → Prop} (h : (gam.kws.all fun q => q.1 != d.F.id) = true) : ∀ many ns ix, (d.F.id, many, ns) ∈ gam.kws → oMap (argIx d.F many ns) d.F.ps.zipIdx = some ix → X many ns ix := fun many ns ix h' => by
  have := List.all_eq_true.mp h _ h'
  simp at this
theorem df0 : DFact gam d0 where
  sc := by kernel_rfl
  dfl := .inl rfl
  bd := fun _ kV doc pm an cdv ct us h => match us, h with | [_], _ => rfl
  kb := fun _ => kb_no (by decide)
  kd := (fun x v h => nomatch h)
theorem df1 : DFact gam d1 where
  sc := by kernel_rfl
  dfl := .inl rfl
  bd := fun _ kV doc pm an cdv ct us h => match us, h with | [_, _], _ => rfl
  kb := fun _ => kb_no (by decide)
  kd := (fun x v h => nomatch h)
theorem df2 : DFact gam d2 where
  sc := by kernel_rfl
  dfl := .inl rfl
  bd := fun _ kV doc pm an cdv ct us h => match us, h with | [_, _], _ => rfl
  kb := fun _ => kb_no (by decide)
  kd := (fun x v h => nomatch h)
theorem df3 : DFact gam d3 where
  sc := by kernel_rfl
  dfl := .inl rfl
  bd := fun _ kV doc pm an cdv ct us h => match us, h with | [_], _ => rfl
  kb := fun _ => kb_no (by decide)
  kd := (fun x v h => nomatch h)
theorem df4 : DFact gam d4 where
  sc := by kernel_rfl
  dfl := .inl rfl
  bd := fun _ kV doc pm an cdv ct us h => match us, h with | [_], _ => rfl
  kb := fun _ => kb_no (by decide)
  kd := (fun x v h => nomatch h)
theorem df5 : DFact gam d5 where
  sc := by kernel_rfl
  dfl := .inl rfl
  bd := fun _ kV doc pm an cdv ct us h => match us, h with | [_], _ => rfl
  kb := fun _ => kb_no (by decide)
  kd := (fun x v h => nomatch h)
theorem df6 : DFact gam d6 where
  sc := by kernel_rfl
  dfl := .inl rfl
  bd := fun _ kV doc pm an cdv ct us h => match us, h with | [_], _ => rfl
  kb := fun _ => kb_no (by decide)
  kd := (fun x v h => nomatch h)
theorem df7 : DFact gam d7 where
  sc := by kernel_rfl
  dfl := .inl rfl
  bd := fun _ kV doc pm an cdv ct us h => match us, h with | [_, _], _ => rfl
  kb := fun _ => kb_no (by decide)
  kd := (fun x v h => nomatch h)
theorem df8 : DFact gam d8 where
  sc := by kernel_rfl
  dfl := .inl rfl
  bd := fun _ kV doc pm an cdv ct us h => match us, h with | [_], _ => rfl
  kb := fun _ => kb_no (by decide)
  kd := (fun x v h => nomatch h)
theorem df9 : DFact gam d9 where
  sc := by kernel_rfl
  dfl := .inl rfl
  bd := fun _ kV doc pm an cdv ct us h => match us, h with | [_], _ => rfl
  kb := fun _ => kb_no (by decide)
  kd := (fun x v h => nomatch h)
theorem df10 : DFact gam d10 where
  sc := by kernel_rfl
  dfl := .inl rfl
  bd := fun _ kV doc pm an cdv ct us h => match us, h with | [_, _], _ => rfl
  kb := fun _ many ns ix h h2 kV doc pm an cdv ct us ws l1 l2 => by
    rw [kws_eq0] at h
    simp only [List.mem_cons, Prod.mk.injEq, List.not_mem_nil, or_false] at h
    rcases h with ⟨e, e1, e2⟩ | ⟨e, e1, e2⟩ | ⟨e, e1, e2⟩ | ⟨e, e1, e2⟩ | ⟨e, e1, e2⟩ | ⟨e, e1, e2⟩ | ⟨e, e1, e2⟩
    · cases e1
      cases e2
      cases (show some [0, 1] = some ix from h2)
      match us, ws, l1, l2 with
      | [u0], [w0], _, _ => exact ⟨[u0, w0], rfl, rfl⟩
    · exact absurd e (by decide)
    · exact absurd e (by decide)
    · exact absurd e (by decide)
    · exact absurd e (by decide)
    · exact absurd e (by decide)
    · exact absurd e (by decide)
  kd := (fun x v h => nomatch h)
theorem df11 : DFact gam d11 where
  sc := by kernel_rfl
  dfl := .inl rfl
  bd := fun _ kV doc pm an cdv ct us h => match us, h with | [_, _], _ => rfl
  kb := fun _ many ns ix h h2 kV doc pm an cdv ct us ws l1 l2 => by
    rw [kws_eq0] at h
    simp only [List.mem_cons, Prod.mk.injEq, List.not_mem_nil, or_false] at h
    rcases h with ⟨e, e1, e2⟩ | ⟨e, e1, e2⟩ | ⟨e, e1, e2⟩ | ⟨e, e1, e2⟩ | ⟨e, e1, e2⟩ | ⟨e, e1, e2⟩ | ⟨e, e1, e2⟩
    · exact absurd e (by decide)
    · cases e1
      cases e2
      cases (show some [0, 1] = some ix from h2)
      match us, ws, l1, l2 with
      | [u0], [w0], _, _ => exact ⟨[u0, w0], rfl, rfl⟩
    · exact absurd e (by decide)
    · exact absurd e (by decide)
    · exact absurd e (by decide)
    · exact absurd e (by decide)
    · exact absurd e (by decide)
  kd := (fun x v h => nomatch h)
theorem df12 : DFact gam d12 where
  sc := by kernel_rfl
  dfl := .inl rfl
  bd := fun _ kV doc pm an cdv ct us h => match us, h with | [_, _], _ => rfl
  kb := fun _ many ns ix h h2 kV doc pm an cdv ct us ws l1 l2 => by
    rw [kws_eq0] at h
    simp only [List.mem_cons, Prod.mk.injEq, List.not_mem_nil, or_false] at h
    rcases h with ⟨e, e1, e2⟩ | ⟨e, e1, e2⟩ | ⟨e, e1, e2⟩ | ⟨e, e1, e2⟩ | ⟨e, e1, e2⟩ | ⟨e, e1, e2⟩ | ⟨e, e1, e2⟩
    · exact absurd e (by decide)
    · exact absurd e (by decide)
    · cases e1
      cases e2
      cases (show some [0, 1] = some ix from h2)
      match us, ws, l1, l2 with
      | [u0], [w0], _, _ => exact ⟨[u0, w0], rfl, rfl⟩
    · exact absurd e (by decide)
    · exact absurd e (by decide)
    · exact absurd e (by decide)
    · exact absurd e (by decide)
  kd := (fun x v h => nomatch h)
theorem df13 : DFact gam d13 where
  sc := by kernel_rfl
  dfl := .inl rfl
  bd := fun _ kV doc pm an cdv ct us h => match us, h with | [_, _], _ => rfl
  kb := fun _ many ns ix h h2 kV doc pm an cdv ct us ws l1 l2 => by
    rw [kws_eq0] at h
    simp only [List.mem_cons, Prod.mk.injEq, List.not_mem_nil, or_false] at h
    rcases h with ⟨e, e1, e2⟩ | ⟨e, e1, e2⟩ | ⟨e, e1, e2⟩ | ⟨e, e1, e2⟩ | ⟨e, e1, e2⟩ | ⟨e, e1, e2⟩ | ⟨e, e1, e2⟩
    · exact absurd e (by decide)
    · exact absurd e (by decide)
    · exact absurd e (by decide)
    · cases e1
      cases e2
      cases (show some [0, 1] = some ix from h2)
      match us, ws, l1, l2 with
      | [u0], [w0], _, _ => exact ⟨[u0, w0], rfl, rfl⟩
    · exact absurd e (by decide)
    · exact absurd e (by decide)
    · exact absurd e (by decide)
  kd := (fun x v h => nomatch h)
theorem df14 : DFact gam d14 where
  sc := by kernel_rfl
  dfl := .inl rfl
  bd := fun _ kV doc pm an cdv ct us h => match us, h with | [_, _], _ => rfl
  kb := fun _ many ns ix h h2 kV doc pm an cdv ct us ws l1 l2 => by
    rw [kws_eq0] at h
    simp only [List.mem_cons, Prod.mk.injEq, List.not_mem_nil, or_false] at h
    rcases h with ⟨e, e1, e2⟩ | ⟨e, e1, e2⟩ | ⟨e, e1, e2⟩ | ⟨e, e1, e2⟩ | ⟨e, e1, e2⟩ | ⟨e, e1, e2⟩ | ⟨e, e1, e2⟩
    · exact absurd e (by decide)
    · exact absurd e (by decide)
    · exact absurd e (by decide)
    · exact absurd e (by decide)
    · cases e1
      cases e2
      cases (show some [0, 1] = some ix from h2)
      match us, ws, l1, l2 with
      | [u0], [w0], _, _ => exact ⟨[u0, w0], rfl, rfl⟩
    · exact absurd e (by decide)
    · exact absurd e (by decide)
  kd := (fun x v h => nomatch h)
theorem df15 : DFact gam d15 where
  sc := by kernel_rfl
  dfl := .inl rfl
  bd := fun _ kV doc pm an cdv ct us h => match us, h with | [_, _], _ => rfl
  kb := fun _ many ns ix h h2 kV doc pm an cdv ct us ws l1 l2 => by
    rw [kws_eq0] at h
    simp only [List.mem_cons, Prod.mk.injEq, List.not_mem_nil, or_false] at h
    rcases h with ⟨e, e1, e2⟩ | ⟨e, e1, e2⟩ | ⟨e, e1, e2⟩ | ⟨e, e1, e2⟩ | ⟨e, e1, e2⟩ | ⟨e, e1, e2⟩ | ⟨e, e1, e2⟩
    · exact absurd e (by decide)
    · exact absurd e (by decide)
    · exact absurd e (by decide)
    · exact absurd e (by decide)
    · exact absurd e (by decide)
    · cases e1
      cases e2
      cases (show some [0, 1] = some ix from h2)
      match us, ws, l1, l2 with
      | [u0], [w0], _, _ => exact ⟨[u0, w0], rfl, rfl⟩
    · exact absurd e (by decide)
  kd := (fun x v h => nomatch h)
theorem df16 : DFact gam d16 where
  sc := by kernel_rfl
  dfl := .inl rfl
  bd := fun _ kV doc pm an cdv ct us h => match us, h with | [_, _], _ => rfl
  kb := fun _ many ns ix h h2 kV doc pm an cdv ct us ws l1 l2 => by
    rw [kws_eq0] at h
    simp only [List.mem_cons, Prod.mk.injEq, List.not_mem_nil, or_false] at h
    rcases h with ⟨e, e1, e2⟩ | ⟨e, e1, e2⟩ | ⟨e, e1, e2⟩ | ⟨e, e1, e2⟩ | ⟨e, e1, e2⟩ | ⟨e, e1, e2⟩ | ⟨e, e1, e2⟩
    · exact absurd e (by decide)
    · exact absurd e (by decide)
    · exact absurd e (by decide)
    · exact absurd e (by decide)
    · exact absurd e (by decide)
    · exact absurd e (by decide)
    · cases e1
      cases e2
      cases (show some [0, 1] = some ix from h2)
      match us, ws, l1, l2 with
      | [u0], [w0], _, _ => exact ⟨[u0, w0], rfl, rfl⟩
  kd := (fun x v h => nomatch h)
theorem df_all : ∀ d ∈ ds, DFact gam d := by
  intro d hd
  simp only [ds, List.mem_cons, List.not_mem_nil, or_false] at hd
  rcases hd with rfl | rfl | rfl | rfl | rfl | rfl | rfl | rfl | rfl | rfl
  · exact df0
  · exact df1
  · exact df2
  · exact df3
  · exact df4
  · exact df5
  · exact df6
  · exact df7
  · exact df8
  · exact df9
theorem dfx_all : ∀ d ∈ dx, DFact gam d := by
  intro d hd
  simp only [dx, List.mem_cons, List.not_mem_nil, or_false] at hd
  rcases hd with rfl | rfl | rfl | rfl | rfl | rfl | rfl
  · exact df10
  · exact df11
  · exact df12
  · exact df13
  · exact df14
  · exact df15
  · exact df16
end K05
end
section
set_option Elab.async false
set_option linter.all false
set_option maxRecDepth 100000
set_option maxHeartbeats 0
namespace K05
open PySem PC L2
def WW (w : World) (K : PySem.W.Frag) : Wd := ⟨K, fun _ => 0, fun c => match ks[c]? with | some k => He.ga K k.x | none => 0, [], fun _ => none, ks.length, w, fun c => match xs[c]? with | some k => He.ga K k.x | none => 0, xs.length⟩
theorem lms_ok (w : World) (K : PySem.W.Frag) : ∀ l I, (WW w K).lm l = some I → LmOk (WW w K) gam prog l I := fun l I h => nomatch h
section
variable {w : World} {K : PySem.W.Frag} {mg : Str → Option Value} {base h : Heap}
theorem cm_all (h8 : CmOk (WW w K) gam prog mg base d8) : ∀ d ∈ ds, CmOk (WW w K) gam prog mg base d := by
  intro d hd
  simp only [ds, List.mem_cons, List.not_mem_nil, or_false] at hd
  rcases hd with rfl | rfl | rfl | rfl | rfl | rfl | rfl | rfl | rfl | rfl
  · exact cm_plain cm0 rfl
  · exact cm_plain cm1 rfl
  · exact cm_plain cm2 rfl
  · exact cm_plain cm3 rfl
  · exact cm_plain cm4 rfl
  · exact cm_plain cm5 rfl
  · exact cm_plain cm6 rfl
  · exact cm_plain cm7 rfl
  · exact h8
  · exact cm_plain cm9 rfl
end
end K05
end
section
set_option Elab.async false
set_option linter.all false
set_option maxRecDepth 100000
set_option maxHeartbeats 4000000
/-! PC: where an exception is handled: what is walked to its end there (the end's own exception is chained), defs called there. -/
namespace PC
open PySem PySem.Spec PyProof.Rows L2 HotX
section
variable {prog : Program} {w : World} {A : Around} {E : Value → Shared → Prop} {s : Shared} {x1 : Addr}
/-- an object of two fields is not the handled exception -/
theorem hot_ne {it : Addr} {o : Obj} {a b : Value} (hot : HotAt A x1 s.heap) (ho : s.heap.get? it = some o) (hd : o.data = .fields #[a, b]) : x1 ≠ it := by
  rintro rfl
  obtain ⟨_, o1, vs1, h1, d1, c1⟩ := hot
  rw [ho] at h1
  cases h1
  rw [hd] at d1
  cases d1
  simp at c1
/-- a list's iterator at its end -/
theorem next_list_hot {it l : Addr} {i : Nat} {items : Array Value} {Q : Value → Shared → Prop} (hot : HotAt A x1 s.heap) (hit : s.heap.IsListIter it l i) (hl : s.heap.IsList l items) (hx : items[i]? = none)
    (hE : ∀ h' e, Heap.ExtBut it s.heap h' → (∃ o, h'.get? e = some o ∧ o.cls = .type "StopIteration") → E (.ref e) { s with heap := h' }) :
    wpAny (model prog w) A (Builtin.SmallTypes.nextOf (.ref it)) Q E s := by
  obtain ⟨o, ho, hc, hd⟩ := id hit
  have nx := hot_ne hot ho hd
  obtain ⟨hh, o1, vs1, h1, d1, c1⟩ := hot
  obtain ⟨ol, hol, _, nl, hdl⟩ := hl
  unfold Builtin.SmallTypes.nextOf
  refine wpAny_bind (wpAny_callSpecial?_slot (name := Str.ofString "__next__") hit.typeIs slot_listiter_next (wpAny_call_entry slot_listiter_next hit.typeIs entry_listiter_next ?_ (args_listiter_next _)))
  show wpAny _ _ (field (.ref it) 0 >>= _) _ _ s
  refine wpAny_bind (wpAny_field ho hd (x := .ref l) rfl ?_)
  show wpAny _ _ (if (Value.ref l == Value.none) = true then _ else _) _ _ s
  rw [if_neg (show ¬ ((Value.ref l == Value.none) = true) from fun z => Bool.false_ne_true z)]
  show wpAny _ _ (field (.ref it) 1 >>= _) _ _ s
  refine wpAny_bind (wpAny_field ho hd (x := .int i 0) rfl ?_)
  show wpAny _ _ (seqItems? (.ref l) >>= _) _ _ s
  refine wpAny_bind (wpAny_seqItems hol hdl ?_)
  simp only [Int.toNat_natCast, hx]
  refine wpAny_bind (wpAny_rule (wpAny_bind (wpAny_setField ho hd (by simp) ?_)))
  show wpAny _ _ (newExc (.type "StopIteration") [] >>= _) _ _ _
  refine wpAny_bind ?_
  simp only [newExc, newTuple]
  refine wpAny_bind (wpAny_newObj_type ?_ (by size_fits))
  refine wpAny_bind (m := firstArgMember _ _) (wpAny_of_eq (a := Value.none) (by first | rfl | (simp only [firstArgMember]; rfl)) ?_)
  refine wpAny_newObj_type ?_ (by size_fits)
  have h1' := (Heap.get?_update_other s.heap (Obj.mapFields (·.setIfInBounds 0 Value.none)) (Ne.symm nx)).trans h1
  refine raiseNew_hot ⟨hh, o1, vs1, Heap.get?_push_of_some _ (Heap.get?_push_of_some _ h1'), d1, c1⟩ (Nat.ne_of_lt (Heap.lt_size (Heap.get?_push_of_some _ h1'))) (Heap.get?_push_size _ rfl) rfl (by first | (simp; done) | (simp; omega) | (simp only [Array.size_append]; simp; omega)) ?_
  refine hE _ _ (fun b ob hb e => ?_) ⟨_, Heap.get?_update_self _ (Heap.get?_push_size _ rfl) rfl, rfl⟩
  have e' := (Heap.get?_update_other s.heap (Obj.mapFields (·.setIfInBounds 0 Value.none)) (Ne.symm hb)).trans e
  rw [Heap.get?_update_other _ _ (Nat.ne_of_gt (Heap.lt_size (Heap.get?_push_of_some _ e')))]
  exact Heap.get?_push_of_some _ (Heap.get?_push_of_some _ e')
theorem enum_end_hot {e it l : Addr} {i : Nat} {items : Array Value} {old : Value} {Q : Option Value → Shared → Prop} (hot : HotAt A x1 s.heap)
    (he : IsEnum s.heap e it i old) (hit : s.heap.IsListIter it l i) (hl : s.heap.IsList l items) (hx : items[i]? = none)
    (hQ : ∀ h', Heap.ExtBut it s.heap h' → Q none { s with heap := h' }) : wpAny (model prog w) A (pyNext (.ref e)) Q E s := by
  have hTy : s.TypeIs (.ref e) "enumerate" := ⟨_, he, rfl⟩
  unfold pyNext
  refine wpAny_bind (wpAny_attempt (wpAny_callSpecial?_slot (name := Str.ofString "__next__") hTy F.slot_enumerate_next (wpAny_call_entry F.slot_enumerate_next hTy F.entry_enumerate_next ?_ (F.args_enumerate_next_1 _))))
  show wpAny _ _ (field (.ref e) 2 >>= _) _ _ _
  refine wpAny_bind (wpAny_field he rfl (x := .ref it) rfl ?_)
  refine wpAny_bind (next_list_hot (x1 := x1) hot hit hl hx fun h' x he' ⟨o, ho, hc⟩ => ?_)
  exact wpAny_bind (wpAny_isInstance (T := "StopIteration") (b := true) ⟨o, ho, hc⟩ isSubtype_stop (wpAny_pure (hQ _ he')))
/-- a tuple's iterator at its end -/
theorem next_tup_hot {it t : Addr} {i : Nat} {items : Array Value} {Q : Option Value → Shared → Prop} (hot : HotAt A x1 s.heap) (hit : IsTupIter s.heap it t i) (hl : IsTup s.heap t items) (hx : items[i]? = none)
    (hQ : ∀ h', Heap.ExtBut it s.heap h' → Q none { s with heap := h' }) : wpAny (model prog w) A (pyNext (.ref it)) Q E s := by
  obtain ⟨o, ho, hc, hd⟩ := id hit
  have nx := hot_ne hot ho hd
  obtain ⟨hh, o1, vs1, h1, d1, c1⟩ := hot
  obtain ⟨ol, hol, _, nl, hdl⟩ := hl
  have hT : s.TypeIs (.ref it) "tuple_iterator" := ⟨_, ho, hc⟩
  unfold pyNext
  refine wpAny_bind (wpAny_attempt (wpAny_callSpecial?_slot (name := Str.ofString "__next__") hT F.slot_tuple_iterator_next (wpAny_call_entry F.slot_tuple_iterator_next hT F.entry_tuple_iterator_next ?_ (F.args_tuple_iterator_next_1 _))))
  show wpAny _ _ (field (.ref it) 0 >>= _) _ _ s
  refine wpAny_bind (wpAny_field ho hd (x := .ref t) rfl ?_)
  show wpAny _ _ (if (Value.ref t == Value.none) = true then _ else _) _ _ s
  rw [if_neg (show ¬ ((Value.ref t == Value.none) = true) from fun z => Bool.false_ne_true z)]
  show wpAny _ _ (field (.ref it) 1 >>= _) _ _ s
  refine wpAny_bind (wpAny_field ho hd (x := .int i 0) rfl ?_)
  show wpAny _ _ (seqItems? (.ref t) >>= _) _ _ s
  refine wpAny_bind (wpAny_seqItems hol hdl ?_)
  simp only [Int.toNat_natCast, hx]
  refine wpAny_bind (wpAny_rule (wpAny_bind (wpAny_setField ho hd (by simp) ?_)))
  show wpAny _ _ (newExc (.type "StopIteration") [] >>= _) _ _ _
  refine wpAny_bind ?_
  simp only [newExc, newTuple]
  refine wpAny_bind (wpAny_newObj_type ?_ (by size_fits))
  refine wpAny_bind (m := firstArgMember _ _) (wpAny_of_eq (a := Value.none) (by first | rfl | (simp only [firstArgMember]; rfl)) ?_)
  refine wpAny_newObj_type ?_ (by size_fits)
  have h1' := (Heap.get?_update_other s.heap (Obj.mapFields (·.setIfInBounds 0 Value.none)) (Ne.symm nx)).trans h1
  refine raiseNew_hot ⟨hh, o1, vs1, Heap.get?_push_of_some _ (Heap.get?_push_of_some _ h1'), d1, c1⟩ (Nat.ne_of_lt (Heap.lt_size (Heap.get?_push_of_some _ h1'))) (Heap.get?_push_size _ rfl) rfl (by first | (simp; done) | (simp; omega) | (simp only [Array.size_append]; simp; omega)) ?_
  refine wpAny_bind (wpAny_isInstance (T := "StopIteration") (b := true) ⟨_, Heap.get?_update_self _ (Heap.get?_push_size _ rfl) rfl, rfl⟩ isSubtype_stop ?_)
  refine wpAny_pure (hQ _ fun b ob hb e => ?_)
  have e' := (Heap.get?_update_other s.heap (Obj.mapFields (·.setIfInBounds 0 Value.none)) (Ne.symm hb)).trans e
  rw [Heap.get?_update_other _ _ (Nat.ne_of_gt (Heap.lt_size (Heap.get?_push_of_some _ e')))]
  exact Heap.get?_push_of_some _ (Heap.get?_push_of_some _ e')
theorem unpack_hot {t : Addr} {items : Array Value} {targets : List (Bool × (Value → Sem Unit))} {Q : Unit → Shared → Prop} (hot : HotAt A x1 s.heap) (ht : IsTup s.heap t items)
    (hn : targets.length = items.size) (hstar : targets.findIdx? (·.1) = none)
    (h : ∀ h', Heap.ExtBut s.heap.objs.size s.heap h' → wpAny (model prog w) A (assignInOrder (targets.map (·.2)) items.toList) Q E { s with heap := h' }) :
    wpAny (model prog w) A (unpack (.ref t) targets) Q E s := by
  unfold unpack
  rw [hn, hstar]
  refine wpAny_bind (wpAny_holding ?_)
  have hlt : t ≠ s.heap.objs.size := by obtain ⟨o, ho, _⟩ := id ht; exact Nat.ne_of_lt (Heap.lt_size ho)
  unfold unpackItems
  refine wpAny_bind ?_
  unfold notIterableAtAll
  refine wpAny_bind (wpAny_specialOf ht.typeIs slot_tuple_iter.lookup (wpAny_pure ?_))
  simp only [Bool.false_eq_true, if_false]
  refine wpAny_bind (wpAny_holding (iter_tuple ht ?_))
  refine wpAny_bind (wpAny_holding (draw_tuple hlt items.size 0 _ _ ⟨_, Heap.get?_push_size _ rfl, rfl, rfl⟩ (ht.push _) (by omega) fun g1 i1 b1 => ?_))
  have hall : List.take items.size (List.drop 0 items.toList) = items.toList := by
    rw [List.drop_zero]
    exact List.take_of_length_le (by simp)
  rw [hall, if_neg (by simp)]
  have t1 : IsTup g1 t items := (ht.push _).extBut b1.extBut hlt
  obtain ⟨hh, o1, vs1, h1, d1, c1⟩ := hot
  have hot2 : HotAt A x1 g1 := ⟨hh, o1, vs1, b1.extBut x1 _ (Nat.ne_of_lt (Heap.lt_size h1)) (Heap.get?_push_of_some _ h1), d1, c1⟩
  refine wpAny_bind (wpAny_holding (next_tup_hot (x1 := x1) hot2 i1 t1 (by simp) fun g2 e2 => ?_))
  simp only [Option.isSome_none, Bool.false_eq_true, if_false]
  exact wpAny_pure (h g2 fun b o hb e => e2 b o hb (b1.extBut b o hb (Heap.get?_push_of_some _ e)))
end
/-! ### contexts -/
/-- the context's handled exception stood at the entry, out of reach -/
def HotB (X : Cx) : Prop := ∃ x1, X.A.handled = some (.ref x1) ∧ x1 ∉ X.fs ∧ x1 ∉ X.ex ∧ X.H_0 x1 = none ∧ ∃ o vs, X.s_0.heap.get? x1 = some o ∧ o.data = .fields vs ∧ vs[2]? = some .none
section
variable {X : Cx} {pins : List (Addr × Obj)} {σ : L2.St} {H : Hp} {s : Shared}
theorem HotB.at (c : HotB X) (I : L2.Inv X pins σ H s) : ∃ x1, HotAt X.A x1 s.heap := by
  obtain ⟨x1, hh, n1, n2, hn, o, vs, ho, hd, hc⟩ := c
  exact ⟨x1, hh, o, vs, I.base.keep x1 o ho hn n1 n2, hd, hc⟩
/-- (a, b, ..) = a tuple, there -/
theorem pg_tupH {es : List Expr} {k : Nat} {t : TGs} {n : Nat} {pos : Pos} (hc : HotB X) (h : PGs X es t) (hn : (assignEach es X.env).length = n := by rfl) (hst : (assignEach es X.env).findIdx? (·.1) = none := by rfl) : PG X (.Tuple es k pos) (gTup X.K n t) := by
  refine ⟨fun pins s σ H v u Q I r ⟨a, xs, e1, hq, hl, hw⟩ => ?_⟩
  subst e1
  cases r
  obtain ⟨x1, hot⟩ := hc.at I
  obtain ⟨its, rv, ht, hz⟩ := I.tuple hq
  rw [assign_Tuple]
  refine wpAny_bind (wpAny_standAt (unpack_hot (x1 := x1) hot ht (by simp [hn, ← hl, rv.length]) hst fun h' hx => ?_))
  exact h.run pins _ σ H xs _ Q (I.kept (t' := s.toks) fun b o e => hx b o (Nat.ne_of_lt (Heap.lt_size e)) e) (by simpa using rv) hw
end
/-- what an iterator does where an exception is handled -/
structure TurnE (P : Program) (w : World) (K : PySem.W.Frag) (tg : Expr) (J : It) (fp : List Addr) (it : Addr) (tn : Nat → Heap → Prop) : Prop where
  obj : ∀ i h, tn i h → ∀ b ∈ fp, ∃ o, h.get? b = some o ∧ ∀ v, o.data ≠ .cell v
  keep : ∀ i h h', tn i h → (∀ b ∈ fp, ∀ o, h.get? b = some o → h'.get? b = some o) → tn i h'
  item : ∀ (X : Cx), X.prog = P → X.w = w → X.K = K → ∀ (i : Nat) (pins : List (Addr × Obj)) (s : Shared) (σ : L2.St) (H : Hp) (E : Value → Shared → Prop), L2.Inv X pins σ H s → (∀ b ∈ fp, FpOk X pins H b) → tn i s.heap → J.go i H →
    wpAny (model P w) X.A (pyNext (.ref it)) (fun r s1 => ∃ u, r = some u ∧
      wpAny (model P w) X.A (letOwnedTupleGo tg (.ref it) u) (fun _ s2 => ∃ x H', L2.Inv X pins σ H' s2 ∧ RelV x u ∧ J.yld i H x H' ∧ tn (i + 1) s2.heap ∧ ∀ b ∈ fp, H' b = none) E s1) E s
  done : ∀ (X : Cx), X.prog = P → X.w = w → X.K = K → HotB X → ∀ (i : Nat) (pins : List (Addr × Obj)) (s : Shared) (σ : L2.St) (H : Hp) (E : Value → Shared → Prop), L2.Inv X pins σ H s → (∀ b ∈ fp, FpOk X pins H b) → tn i s.heap → J.stop i H →
    wpAny (model P w) X.A (pyNext (.ref it)) (fun r s1 => r = none ∧ L2.Inv X pins σ H s1) E s
  self : ∀ (A : Around) (i : Nat) (s : Shared) (Q : Value → Shared → Prop) (E : Value → Shared → Prop), tn i s.heap → Q (.ref it) s → wpAny (model P w) A (pyIter (.ref it)) Q E s
theorem turn_enumE {P : Program} {w : World} {K : PySem.W.Frag} {elts : List Expr} {kk : Nat} {tpos : Pos} (a e it : Addr) :
    TurnE P w K (.Tuple elts kk tpos) (Ite K a) [e, it] e (fun i h => (∃ old, IsEnum h e it ((i : Nat) : Int) old) ∧ h.IsListIter it a i ∧ e ≠ it) where
  obj := (turn_enum (P := P) (w := w) (K := K) (elts := elts) (kk := kk) (tpos := tpos) a e it).obj
  keep := (turn_enum (P := P) (w := w) (K := K) (elts := elts) (kk := kk) (tpos := tpos) a e it).keep
  self := (turn_enum (P := P) (w := w) (K := K) (elts := elts) (kk := kk) (tpos := tpos) a e it).self
  item := by
    rintro X rfl rfl rfl i pins s σ H E I hf ⟨⟨old, he⟩, hit, hne⟩ ⟨xs, x, hq, hx⟩
    obtain ⟨its, rv, p, hz⟩ := I.list hq
    obtain ⟨u, hu, ru⟩ := rv.get hx
    have le : e < s.heap.objs.size := Heap.lt_size he
    have li : it < s.heap.objs.size := let ⟨_, q, _⟩ := hit; Heap.lt_size q
    refine wpAny_pyNext_enum_item he hit p.isList (x := u) (by simpa using hu) hne fun h' ho hit' hT hsz hk => ⟨_, rfl, ?_⟩
    refine wpAny_letOwnedTupleGo_enum (s := { s with heap := h', toks := s.toks + 1 }) ho fun h2 he2 sb => ?_
    have T2 : h2.get? s.heap.objs.size = some { cls := .type "tuple", data := .seq #[.int i s.toks, u] } := (sb.2 _ (Nat.ne_of_gt le)).trans hT
    have new : ObjOk X.prog X.w (upd H s.heap.objs.size (.tup [.int (i : Nat), x])) h2 s.heap.objs.size (.tup [.int (i : Nat), x]) := ⟨show 2 ≤ sizeLine by decide, [.int i s.toks, u], .cons ⟨_, rfl⟩ (.cons ru .nil), ⟨_, T2, rfl, _, rfl⟩⟩
    have kk2 : ∀ b ob, b ∉ [e, it] → s.heap.get? b = some ob → h2.get? b = some ob := fun b ob hb q => by
      have n1 : b ≠ e := fun z => hb (by simp [z])
      have n2 : b ≠ it := fun z => hb (by simp [z])
      exact (sb.2 b n1).trans (hk b ob n1 n2 q)
    have I1 : L2.Inv X pins σ (upd H s.heap.objs.size (.tup [.int (i : Nat), x])) { s with heap := h2, toks := s.toks + 1 } := I.turnedNew (ch := [e, it]) kk2 hf (Nat.le_refl _) new
    refine ⟨.ref s.heap.objs.size, _, I1, rfl, ⟨_, x, rfl, I.hok.fresh (Nat.le_refl _), rfl, fun ys hy => (I.list_inj hy hq) ▸ hx⟩, ⟨⟨u, ?_⟩, hit'.at fun o q => (sb.2 it (Ne.symm hne)).trans q, hne⟩, fun b hb => ?_⟩
    · rw [show ((i + 1 : Nat) : Int) = (i : Int) + 1 by omega]
      exact he2
    · have lb : b < s.heap.objs.size := by
        rcases (show b = e ∨ b = it by simpa using hb) with z | z
        · rw [z]
          exact le
        · rw [z]
          exact li
      rw [upd_ne (Nat.ne_of_lt lb)]
      exact (hf b hb).1
  done := by
    rintro X rfl rfl rfl hc i pins s σ H E I hf ⟨⟨old, he⟩, hit, hne⟩ ⟨xs, hq, hx⟩
    obtain ⟨x1, hot⟩ := hc.at I
    obtain ⟨its, rv, p, hz⟩ := I.list hq
    obtain ⟨f0, f1, f2, f3, f4, f5⟩ := hf it (by simp)
    have hl := rv.length
    exact enum_end_hot (x1 := x1) hot he hit p.isList (by simp; omega) fun h' eb => ⟨rfl, I.turned (t' := s.toks) (fun b o hb q => eb b o hb q) f0 f1 f3 f4 f5⟩
def PIEE (X : Cx) (pins : List (Addr × Obj)) (σ : L2.St) (tg : Expr) (R : It → Hp → Prop) (itv : Value) (s2 : Shared) : Prop :=
  ∃ (it : Addr) (fp : List Addr) (tn : Nat → Heap → Prop) (J : It) (H' : Hp), itv = .ref it ∧ L2.Inv X pins σ H' s2 ∧ TurnE X.prog X.w X.K tg J fp it tn ∧ tn 0 s2.heap ∧ (∀ b ∈ fp, FpOk X pins H' b) ∧ R J H'
structure PIJ (X : Cx) (tg iter : Expr) (wi : TI) : Prop where
  run : ∀ (pins : List (Addr × Obj)) (s : Shared) (σ : L2.St) (H : Hp) (R : It → Hp → Prop), L2.Inv X pins σ H s → wi σ H R →
    wpAny (model X.prog X.w) X.A (eval iter X.env) (fun v s1 => wpAny (model X.prog X.w) X.A (pyIter v) (PIEE X pins σ tg R) X.xe s1) X.xe s
theorem pi_enumE {X : Cx} {e : Expr} {ta : TA} {p pos tpos : Pos} {elts : List Expr} {kk : Nat} (hg : Gl X "enumerate") (hm : X.mg "enumerate" = none) (ha : PA X [e] ta) (hs : starEach [e] X.env = [(false, eval e X.env)] := by rfl) :
    PIJ X (.Tuple elts kk tpos) (.Call (.Name "enumerate" p) [e] [] pos) (iEnum X.K ta) := by
  refine ⟨fun pins s σ H R I h => Call_ (ld_blt I hg hm boot_enumerate (PyProof.Rows.callWith_type1 (thn (ha.run pos pins s σ H _ I h) fun us s1 ⟨vs, H1, I1, r1, a, xs, ex, hq, q⟩ => ?_) hs rfl))⟩
  subst ex
  cases r1 with
  | cons r rr =>
    cases rr
    cases r
    obtain ⟨its, rv, p', hz⟩ := I1.list hq
    refine call_enumerate_list p'.isList fun h' he hit hsz hk => wpAny_pyIter_enum he ?_
    refine ⟨s1.heap.objs.size + 1, [s1.heap.objs.size + 1, s1.heap.objs.size], _, _, H1, rfl, I1.kept (t' := s1.toks) hk, turn_enumE a (s1.heap.objs.size + 1) s1.heap.objs.size, ⟨⟨.none, he⟩, hit, Nat.succ_ne_self _⟩, fun b hb => ?_, q⟩
    have hle : s1.heap.objs.size ≤ b := by
      rcases (show b = s1.heap.objs.size + 1 ∨ b = s1.heap.objs.size by simpa using hb) with z | z
      · rw [z]
        exact Nat.le_add_right _ _
      · rw [z]
        exact Nat.le_refl _
    exact I1.fpOk hle (I1.hok.fresh hle)
section
variable {X : Cx}
theorem HotB.blk {pins : List (Addr × Obj)} {σ : L2.St} {H : Hp} {s : Shared} {scope : Scope} {ce : Env} {fp : List Addr} (c : HotB X) (I : L2.Inv X pins σ H s) (hf : ∀ b ∈ fp, FpOk X pins H b) : HotB (X.blk s H scope ce fp) := by
  obtain ⟨x1, hh, n1, n2, hn, o, vs, ho, hd, hc⟩ := c
  have l1 := Heap.lt_size ho
  refine ⟨x1, hh, fun z => ?_, fun z => ?_, I.base.free x1 o ho hn n2, o, vs, I.base.keep x1 o ho hn n1 n2, hd, hc⟩
  · rcases List.mem_cons.mp (I.stkSub x1 z) with z | z
    · exact absurd (Nat.lt_of_lt_of_le l1 I.ok.above) (by rw [z]; exact Nat.lt_irrefl _)
    · exact n1 z
  · rcases (hf x1 z).2.2.2.1 with z | z
    · exact n2 z
    · exact absurd (Nat.lt_of_lt_of_le l1 z) (Nat.lt_irrefl _)
theorem pe_lcH {elt tg iter : Expr} {ifs : List Expr} {scope : Scope} {own : List (Str × Nat)} {pos : Pos} {wi : TI} {g : TG} {tt : TT} {te : TE} (hc : HotB X) (hN : X.N.Nodup) (hi : PIJ X tg iter wi) (ok : BlkOk X.N X.env.scope scope own)
    (hg : ∀ (s : Shared) (H : Hp) (C : Addr) (cl : List (Str × Addr)) (fp : List Addr), HotB (X.blk s H scope (compEnvC scope cl C X.env) fp) → PG (X.blk s H scope (compEnvC scope cl C X.env) fp) tg g)
    (ht : ∀ (s : Shared) (H : Hp) (C : Addr) (cl : List (Str × Addr)) (fp : List Addr), PTs (X.blk s H scope (compEnvC scope cl C X.env) fp) ifs tt)
    (he : ∀ (s : Shared) (H : Hp) (C : Addr) (cl : List (Str × Addr)) (fp : List Addr), PE (X.blk s H scope (compEnvC scope cl C X.env) fp) elt te) (hs : ∀ x, foldedSetIterable iter X.env x = pure x := by intro _; rfl) :
    PE X (.ListComp elt [⟨tg, iter, ifs, 0⟩] scope pos) (tLc wi g tt te (own.map (·.2))) := by
  refine ⟨fun pins s σ H Q I h => ?_⟩
  rw [eval_ListComp]
  have hfree : ∀ y ∈ scope.names, y.2 = .free → ∃ c, X.env.cells.lookup y.1 = some c := fun y hy e => (ok.free y hy e).elim (fun k => I.ok.has _ (.inl k)) fun k => I.ok.has _ (.inr k)
  refine wpAny_comprehension_free (use := _) rfl hs (closure_ok hfree) ok.kind (fun y hy e => by rw [ok.uniq y hy, e]) (thn (hi.run pins s σ H _ I h) fun xv s1 hx => thn hx fun itv s2 ⟨it, fp, tn, J, H2, e, I2, T, st2, f2, q⟩ => ?_)
  subst e
  refine wpAny_newObj_type (newEnv_comp ?_) (show 0 ≤ sizeLine by decide)
  generalize hD : s2.heap.objs.size = D
  have hDn : H2 D = none := I2.hok.fresh (Nat.le_of_eq hD)
  obtain ⟨W, ⟨m0, w0⟩, turn⟩ := q D hDn
  generalize hs3 : ({ s2 with heap := s2.heap.push { cls := .type "list", data := .seq ([] : List Value).toArray } } : Shared) = s3
  have h3 : s3.heap = s2.heap.push { cls := .type "list", data := .seq ([] : List Value).toArray } := by rw [← hs3]
  have I3 : L2.Inv X pins σ (upd H2 D (.lst [])) s3 := by
    rw [← hs3]
    refine I2.laid (t' := s2.toks) (fun b o e => Heap.get?_push_of_some _ e) (Nat.le_of_eq hD) ⟨Nat.zero_le _, [], 0, .nil, ?_⟩
    rw [← hD]
    exact Heap.get?_push_size _ rfl
  have sz : ∀ b ∈ fp, b < s2.heap.objs.size := fun b hb => let ⟨o, e, _⟩ := T.obj _ _ st2 b hb; Heap.lt_size e
  have f3 : ∀ b ∈ fp, FpOk X pins (upd H2 D (.lst [])) b ∧ b < s3.heap.objs.size := fun b hb => by
    have hlt := sz b hb
    refine ⟨⟨?_, (f2 b hb).2⟩, by rw [h3, Heap.size_push]; exact Nat.lt_succ_of_lt hlt⟩
    rw [upd_ne (by rw [← hD]; exact Nat.ne_of_lt hlt)]
    exact (f2 b hb).1
  have st3 : tn 0 s3.heap := T.keep _ _ _ st2 fun b _ o e => by
    rw [h3]
    exact Heap.get?_push_of_some _ e
  have I4 := block_start I3 ok hN f3
  generalize hce : compEnvC scope (cellsFrom (s3.heap.objs.size + 1) scope.names (cloFrom X.env.cells scope.names [])) s3.heap.objs.size X.env = ce at I4
  have hB : HotB (X.blk s3 (upd H2 D (.lst [])) scope ce fp) := hc.blk I3 fun b hb => (f3 b hb).1
  have pg : PG (X.blk s3 (upd H2 D (.lst [])) scope ce fp) tg g := by
    subst hce
    exact hg _ _ _ _ _ hB
  have pt : PTs (X.blk s3 (upd H2 D (.lst [])) scope ce fp) ifs tt := by
    subst hce
    exact ht _ _ _ _ _
  have pe : PE (X.blk s3 (upd H2 D (.lst [])) scope ce fp) elt te := by
    subst hce
    exact he _ _ _ _ _
  show codeAny _ _ (.compStart (.ListComp elt [⟨tg, iter, ifs, 0⟩] scope pos) 0 (.ref it) (.ref D) (compEnvC scope (cellsFrom (s3.heap.objs.size + 1) scope.names (cloFrom X.env.cells scope.names [])) s3.heap.objs.size X.env)) _ { s3 with heap := pushCells (s3.heap.push { cls := .type "dict", data := .dict #[] }) scope.names }
  have nfp : ∀ b ∈ fp, (upd H2 D (.lst [])) b = none := fun b hb => (f3 b hb).1.1
  rw [hce]
  have cL : ce.locals = s3.heap.objs.size := by
    subst hce
    rfl
  generalize hH3 : upd H2 D (.lst []) = H3 at I3 I4 pg pt pe w0 nfp f3 hB
  generalize hs4 : ({ s3 with heap := pushCells (s3.heap.push { cls := .type "dict", data := .dict #[] }) scope.names } : Shared) = s4 at I4 ⊢
  have st4 : tn 0 s4.heap := T.keep _ _ _ st3 fun b _ o e => by
    rw [← hs4]
    exact pushCells_keeps _ _ _ _ (Heap.get?_push_of_some _ e)
  have stat : ∀ {σ' : L2.St} {H' : Hp} {s' : Shared}, L2.Inv (X.blk s3 H3 scope ce fp) [] σ' H' s' → (∀ b ∈ fp, H' b = none) → ∀ b ∈ fp, FpOk (X.blk s3 H3 scope ce fp) [] H' b := fun {σ' H' s'} I' hn b hb =>
    ⟨hn b hb, (I'.ok.exf b hb).1, I'.ok.exfs b hb, .inl hb, fun x c e => (I'.ok.exf b hb).2 x c e, fun p hp => by simp at hp⟩
  have back : ∀ (Qf : Result → Shared → Prop), (∀ s' m H', L2.Inv X pins σ H' s' → Q (.ref D) H' → s'.heap.Ns s3.heap.objs.size m → FpOk X pins H' s3.heap.objs.size → Qf (.ok .next) s') → codeAny (model X.prog X.w) X.A (.compLoop (.ListComp elt [⟨tg, iter, ifs, 0⟩] scope pos) 0 (.ref it) (.ref D) ce) Qf s4 := fun Qf hQf => by
    refine compLoop_any (fun n s' => ∃ i H', L2.Inv (X.blk s3 H3 scope ce fp) [] (L2.wipe σ (own.map (·.2))) H' s' ∧ tn i s'.heap ∧ (∀ b ∈ fp, H' b = none) ∧ W i n H') ?_ m0 ⟨0, H3, I4, st4, nfp, w0⟩
    rintro n s5 ⟨i, H5, I5, st5, n5, w5⟩
    rcases turn i n H5 w5 with ⟨stop, qq⟩ | ⟨go, Nx, hNx, step⟩
    · refine thnF (T.done (X.blk s3 H3 scope ce fp) rfl rfl rfl hB i [] s5 _ H5 (fun _ _ => False) I5 (stat I5 n5) st5 stop) fun r s6 ⟨hr, I6⟩ => ?_
      subst hr
      have I7 : L2.Inv X pins σ H5 s6 := I3.call' (ch := fp) I6.os I6.base I6.hok I6.bare fun b hb => by
        obtain ⟨_, g1, _, g3, g4, g5⟩ := (f3 b hb).1
        exact ⟨g3, g1, g4, g5⟩
      have nC : H5 s3.heap.objs.size = none := by
        have z : H5 ce.locals = none := I6.free
        rwa [cL] at z
      obtain ⟨m, hn, _⟩ := I6.loc
      have hn : s6.heap.Ns ce.locals m := hn
      rw [cL] at hn
      exact hQf s6 m H5 I7 qq hn (I3.fpOk (Nat.le_refl _) nC)
    · refine thnF (T.item (X.blk s3 H3 scope ce fp) rfl rfl rfl i [] s5 _ H5 (fun _ _ => False) I5 (stat I5 n5) st5 go) fun r s6 ⟨u, hr, h6⟩ => ?_
      subst hr
      refine thnF h6 fun _ s7 ⟨x, H7, I7, r7, y7, st7, n7⟩ => ?_
      have J7 := I7.pinned (stat I7 n7) (T.obj _ _ st7)
      refine thnF (pg.run _ s7 _ H7 x u _ J7 r7 (step x H7 y7)) fun _ s8 ⟨σ8, H8, I8, hw8, q8⟩ => ?_
      refine thnF (pt.run _ s8 σ8 H8 _ I8 q8) fun b s9 ⟨H9, I9, q9⟩ => ?_
      have fin : ∀ {s' : Shared} {H' : Hp}, L2.Inv (X.blk s3 H3 scope ce fp) ([] ++ pinsAt fp s7.heap) σ8 H' s' → Nx H' → ∃ m, m < n ∧ ∃ i H', L2.Inv (X.blk s3 H3 scope ce fp) [] (L2.wipe σ (own.map (·.2))) H' s' ∧ tn i s'.heap ∧ (∀ b ∈ fp, H' b = none) ∧ W i m H' := fun {s' H'} I' nx => by
        obtain ⟨m', hm, w'⟩ := hNx H' nx
        have pin' : ∀ b ∈ fp, ∀ o, s7.heap.get? b = some o → s'.heap.get? b = some o ∧ H' b = none := fun b hb o e => by
          have z := I'.pin (b, o) (List.mem_append_right _ (List.mem_append_right _ (mem_pinsAt hb e)))
          exact ⟨z.1, z.2.1⟩
        refine ⟨m', hm, i + 1, H', (I'.unpinned (pins := [])).weak (by rw [← hw8, L2.wipe_length]) (fun j v e => ?_), T.keep _ _ _ st7 fun b hb o e => (pin' b hb o e).1, fun b hb => ?_, w'⟩
        · rw [← hw8] at e
          exact (L2.wipe_some e).1
        · obtain ⟨o, e, _⟩ := T.obj _ _ st7 b hb
          exact (pin' b hb o e).2
      cases b with
      | false =>
        simp only [Bool.false_eq_true, if_false] at q9 ⊢
        exact fin I9 q9
      | true =>
        simp only [if_true] at q9 ⊢
        refine thnF (pe.run _ s9 σ8 H9 _ I9 q9) fun z s10 ⟨yv, H10, I10, r10, acc, d10, z10, nx⟩ => ?_
        exact app_ok (X := X.blk s3 H3 scope ce fp) I10 d10 z10 r10 fun s11 I11 => fin I11 nx
  have loop := back (compPost (model X.prog X.w) X.A X.xe none (EP X pins σ Q) (.ref D) s3.heap.objs.size) fun s' m H' I' q hn ⟨g0, g1, g2, g3, g4, g5⟩ => ⟨m, hn, fun h2 sb => ⟨.ref D, H', I'.turned (t' := s'.toks) (fun b o hb e => (sb.2 b hb).trans e) g0 g1 g3 g4 g5, rfl, q⟩⟩
  exact codeAny_compStart_list loop (T.self X.A 0 _ _ _ st4 loop)
end
section
variable {X : Cx} {pins : List (Addr × Obj)} {σ : L2.St} {H : Hp} {s : Shared} {p : Addr × Obj} {k : Nat} {f : Addr} {fd : FuncData} {nm qual : Str} {params : Arguments} {body : List Stmt} {scope : Scope} {dvs : List V} {kws : List (Str × V)} {N ps : List Str} {us : List Value} {vs : List V} {Q : VK}
/-- the context of a def's body that is called there -/
abbrev cxHot (X : Cx) (N : List Str) (qual : Str) (scope : Scope) (f : Addr) (fd : FuncData) (s : Shared) (H : Hp) (p : Addr × Obj) : Cx := L2H.cxH CX0 X.prog X.w X.K X.mg X.base N qual scope f fd.code X.A X.stack s H E0 p
/-- a def called where p's exception is handled, its body shown at this very state -/
theorem run_hot (D : FunD X.K nm qual params body scope dvs kws f fd) (S : FnScope N ps scope) (hot : L2H.Hot1 X.A p) (hp : p ∈ X.pn) (hr : L2H.RoomH (k + 1) X.A) (hb : Binds X.K fd ps []) (I : L2.Inv X pins σ H s) (r : Vals vs us) (hl : vs.length = ps.length)
    (hbody : HotB (cxHot X N qual scope f fd s H p) → ∃ t, PSs (cxHot X N qual scope f fd s H p) body t ∧ t { nx := fun _ H' => Q .non H', rt := Q } (L2.start N vs) H) :
    wpAny (model X.prog X.w) X.A (PySem.call (.ref f) us) (EP X pins σ Q) X.xe s := by
  have b := hb s us I.kIn (by rw [List.append_nil, ← r.length]; exact hl)
  rw [List.append_nil] at b
  have P1 := I.pin p (List.mem_append_left _ hp)
  have hpin : L2H.PinOk X.stack H s p := ⟨P1.1, P1.2.1, fun hm => (List.mem_cons.mp (I.stkSub p.1 hm)).elim P1.2.2.1 P1.2.2.2.1, P1.2.2.2.2⟩
  have hB : HotB (cxHot X N qual scope f fd s H p) := by
    obtain ⟨hh, vs1, hd, hc⟩ := hot
    exact ⟨p.1, hh, hpin.nofs, by show p.1 ∉ ([] : List Addr); simp, hpin.free, p.2, vs1, hpin.get, hd, hc⟩
  obtain ⟨t, ht, hq⟩ := hbody hB
  obtain ⟨oc, od, dV, kV, doc, pm, an, cdv, ct, osl, hfd, lk, hcd, _, _⟩ := D.ex
  have hcode : fd.code = cdv := by rw [hfd]
  unfold cxHot at ht
  rw [hcode] at ht
  rw [hfd] at lk b
  have e0 := I.env0
  have lim : s.heap.NoLimit := I.nolimit
  have hkind : ∀ y ∈ ps.zip us, scope.names.lookup y.1 = some .local ∨ (scope.names.lookup y.1 = some .cell ∧ ((cellsFrom (s.heap.objs.size + 1) scope.names []).lookup y.1).isSome = true) := fun ⟨n, v⟩ hy => (S.par n (List.of_mem_zip hy).1).elim .inl fun q => .inr ⟨q, PySem.W.cellsFrom_some _ _ _ (.inl q)⟩
  refine wpAny_call (codeAny_mono (R := CR CX0 X.stack X.prog X.w H s Q E0) ?core fun r s' hq => by
    obtain ⟨u, e, q⟩ := back_fn I hq
    subst e
    exact q)
  refine codeAny_call_function hr.depth (I.kIn _ _ lk) rfl S.co S.gen rfl (PySem.W.codeRec_of I.kIn hcd) (b _ _ _ _ (wpAny_newFunctionEnv_cells S.kind hkind fun env he s1 x => ?_))
  subst he
  refine ⟨lim.keeps x.toInCall.keep, codeAny_func ?_⟩
  have J : L2.Inv (L2H.cxH CX0 X.prog X.w X.K X.mg X.base N qual scope f cdv X.A X.stack s H E0 p) [] (L2.start N vs) H s1 := L2H.inv_startH S hpin e0 hl r x
  refine wpAny_mono (ht.run [] s1 (L2.start N vs) H _ J hq) (fun fl s' hs => ?_) fun e s' hs => hs
  have fin : ∀ {σ' : L2.St} {H' : Hp} {v : V} {u : Value}, L2.Inv (L2H.cxH CX0 X.prog X.w X.K X.mg X.base N qual scope f cdv X.A X.stack s H E0 p) [] σ' H' s' → RelV v u → Q v H' → L2.CE X.stack X.prog X.w H s Q u s' :=
    fun {σ' H' v u} J rv q => ⟨v, H', J.os, J.bare, J.base, J.hok, rv, q⟩
  cases fl with
  | ret u =>
    obtain ⟨v, σ', H', J, rv, q⟩ := hs
    exact fin J rv q
  | next =>
    obtain ⟨σ', H', J, q⟩ := hs
    exact fin (v := V.non) (u := Value.none) J rfl q
  | brk =>
    obtain ⟨_, _, _, q⟩ := hs
    exact False.elim q
  | cont =>
    obtain ⟨_, _, _, q⟩ := hs
    exact False.elim q
end
/-- H grown by things that are no store's -/
theorem Rep.grow {W : Wd} {ι : List Addr} {S : Sto} {H H' : Hp} (R : Rep W ι S H) (k : ∀ b o, H b = some o → H' b = some o) : Rep W ι S H' ∧ Ext ι S H ι S H' := by
  have E : Ext ι S H ι S H' := ⟨⟨[], by simp, by simp⟩, fun a o h _ _ => k a o h, fun _ _ => rfl⟩
  refine ⟨⟨R.len, R.nd, fun n a o h1 h2 => ?_, Tabs.own R.tab fun b o h _ => k b o h⟩, E⟩
  obtain ⟨u, hu, _⟩ := R.mem (List.mem_iff_getElem?.mpr ⟨n, h1⟩)
  exact OV.mono E R (R.ob n a o h1 h2) (by rw [hu]; exact k _ _ hu)
/-- .. and by one list that becomes the store's -/
theorem Rep.growL {W : Wd} {ι : List Addr} {S : Sto} {H H' : Hp} {p : Addr} {xs : List D} {vs : List V} (R : Rep W ι S H) (k : ∀ b o, H b = some o → H' b = some o) (hn : H p = none) (hp : H' p = some (.lst vs)) (hv : DVs W ι H xs vs) :
    Rep W (ι ++ [p]) (S ++ [.lst xs]) H' ∧ Ext ι S H (ι ++ [p]) (S ++ [.lst xs]) H' ∧ (ι ++ [p])[S.length]? = some p := by
  obtain ⟨R1, E1⟩ := R.alloc hn (u := .lst vs) (o := .lst xs) ⟨vs, upd_same, DVs.mono (Ext.alloc R hn (.lst vs) (.lst xs)) R _ _ hv⟩
  obtain ⟨R2, E2⟩ := R1.grow (H' := H') fun b o h => by
    by_cases e : b = p
    · subst e
      rw [upd_same] at h
      cases h
      exact hp
    · rw [upd_ne e] at h
      exact k b o h
  refine ⟨R2, E1.trans R1 E2, ?_⟩
  rw [← R.len, List.getElem?_append_right (Nat.le_refl _)]
  simp
end PC
end
section
set_option Elab.async false
set_option linter.all false
set_option maxRecDepth 100000
set_option maxHeartbeats 4000000
/-! _law_kinds, called where an exception is handled. -/
namespace K05
open PySem PC L2
theorem kbody : ∃ (p0 p1 p2 p3 p4 p5 p6 p7 p8 p9 p10 p11 p12 p13 p14 p15 p16 p17 p18 p19 p20 p21 p22 p23 p24 p25 p26 p27 p28 p29 p30 p31 p32 p33 p34 p35 p36 p37 p38 p39 p40 p41 p42 p43 p44 p45 p46 p47 p48 p49 p50 p51 p52 p53 p54 p55 p56 p57 p58 p59 p60 p61 p62 p63 p64 p65 p66 p67 p68 p69 p70 p71 p72 p73 p74 p75 : Pos) (k0 : Nat) (c0 : Scope), L2.defBody s4 = [.Assign [(.Name "some" p0)] (.List [(.Call (.Name "isinstance" p1) [(.Name "made" p2), (.Name "NoText" p3)] [] p4), (.Call (.Name "isinstance" p5) [(.Name "made" p6), (.Name "NoBook" p7)] [] p8), (.Call (.Name "isinstance" p9) [(.Name "made" p10), (.Name "NoPaper" p11)] [] p12), (.Call (.Name "isinstance" p13) [(.Name "made" p14), (.Name "NoStand" p15)] [] p16)] p17) p18, .Assign [(.Name "some" p19)] (.BinOp (.Name "some" p20) .Add (.List [(.Call (.Name "isinstance" p21) [(.Name "made" p22), (.Name "NoRow" p23)] [] p24), (.Call (.Name "isinstance" p25) [(.Name "made" p26), (.Name "NoDoor" p27)] [] p28), (.Call (.Name "isinstance" p29) [(.Name "made" p30), (.Name "NoTurn" p31)] [] p32)] p33) p34) p35, .Assign [(.Name "some" p36)] (.BinOp (.Name "some" p37) .Add (.List [(.Call (.Name "isinstance" p38) [(.Name "made" p39), (.Name "NoName" p40)] [] p41), (.Call (.Name "isinstance" p42) [(.Name "made" p43), (.Name "Taken" p44)] [] p45), (.Call (.Name "isinstance" p46) [(.Name "made" p47), (.Name "NoCode" p48)] [] p49)] p50) p51) p52, .Assign [(.Name "some" p53)] (.BinOp (.Name "some" p54) .Add (.List [(.Call (.Name "isinstance" p55) [(.Name "made" p56), (.Name "InUse" p57)] [] p58), (.Call (.Name "isinstance" p59) [(.Name "made" p60), (.Name "Absent" p61)] [] p62)] p63) p64) p65, .Return (some (.ListComp (.Name "k" p66) [⟨(.Tuple [(.Name "k" p67), (.Name "one" p68)] k0 p69), (.Call (.Name "enumerate" p70) [(.Name "some" p71)] [] p72), [(.Name "one" p73)], 0⟩] c0 p74)) p75] ∧ blkC n4 (L2.defScope s4) c0 [("k", 2), ("one", 3)] = true ∧ (relS c0 (L2.defScope s4)).names.lookup ("k" : Str) = some NameKind.local ∧ (relS c0 (L2.defScope s4)).names.lookup ("one" : Str) = some NameKind.local := ⟨_, _, _, _, _, _, _, _, _, _, _, _, _, _, _, _, _, _, _, _, _, _, _, _, _, _, _, _, _, _, _, _, _, _, _, _, _, _, _, _, _, _, _, _, _, _, _, _, _, _, _, _, _, _, _, _, _, _, _, _, _, _, _, _, _, _, _, _, _, _, _, _, _, _, _, _, _, _, rfl, by kernel_rfl, by kernel_rfl, by kernel_rfl⟩
/-- which of the twelve it is -/
def bsF (k : Nat) : List V := (List.range 12).map fun j => V.bl (decide (k ∈ [j]))
/-- the numbers below i of those that it is -/
def acF (k i : Nat) : List V := ((List.range i).filter fun j => decide (k ∈ [j])).map fun j => V.int (j : Nat)
theorem acF_step {k i : Nat} : acF k (i + 1) = if decide (k ∈ [i]) = true then acF k i ++ [.int (i : Nat)] else acF k i := by
  unfold acF
  rw [List.range_succ, List.filter_append]
  by_cases h : decide (k ∈ [i]) = true
  · rw [if_pos h, show List.filter (fun j => decide (k ∈ [j])) [i] = [i] from by rw [List.filter_cons, if_pos h, List.filter_nil], List.map_append]
    rfl
  · rw [if_neg h, show List.filter (fun j => decide (k ∈ [j])) [i] = [] from by rw [List.filter_cons, if_neg h, List.filter_nil], List.append_nil]
theorem acF_len {k i : Nat} : (acF k i).length ≤ i := by
  unfold acF
  rw [List.length_map]
  refine Nat.le_trans (List.length_filter_le _ _) ?_
  rw [List.length_range]
  exact Nat.le_refl _
theorem acF_one {k : Nat} (h : k = 5 ∨ k = 10 ∨ k = 11) : acF k 12 = [.int (k : Nat)] := by rcases h with rfl | rfl | rfl <;> rfl
theorem bsF_at {k i : Nat} (h : i < 12) : (bsF k)[i]? = some (V.bl (decide (k ∈ [i]))) := by
  unfold bsF
  rw [List.getElem?_map, List.getElem?_range h]
  rfl
theorem up_keep {H : Hp} {p : Addr} {u : HO} (hp : H p = none) : ∀ b o, H b = some o → upd H p u b = some o := fun b o h => by
  rw [upd_ne (ne_of_none h hp)]
  exact h
section
variable {w : World} {K : PySem.W.Frag}
theorem isT {KK : PySem.W.Frag} {C a d : Addr} {fs : List (Str × V)} {v : V} {cv : Value} {b : Bool} {σ : L2.St} {H : Hp} {Q : VK} (h0 : σ[0]? = some (some (.ref a))) (hd : H d = some (.xd fs)) (hv : ∀ u, RelV v u → u = cv) (e : PySem.W.kitOne KK (.ref C) cv = some b) (q : Q (.bl b) H) :
    tCB (rIsD KK C a d) (tCons (tVar 0) (tCons (tC v) tNil)) σ H Q := ⟨.ref a, h0, v, cv, b, fs, rfl, hd, hv, e, q⟩
theorem kinds_body {X : Cx} {f a d : Addr} {fd : FuncData} {s : Shared} {H : Hp} {k : Nat} {oe : Obj} {fs : List (Str × V)} {Q : VK} (hK : X.K = K) (hx : ∀ y cs, gam.xis.lookup y = some cs → XiOk (WW w K) K X.mg y cs)
    (hfree : X.mg "isinstance" = none) (hfree2 : X.mg "enumerate" = none) (hz : Zc (.ref ((WW w K).xa k)) (some d) oe) (hf : ∃ vs, oe.data = .fields vs) (hk : k = 5 ∨ k = 10 ∨ k = 11) (hd : H d = some (.xd fs))
    (q : ∀ p H', (∀ b o, H b = some o → H' b = some o) → H p = none → H' p = some (.lst [.int (k : Nat)]) → Q (.ref p) H') (hB : HotB (cxHot X n4 d4.qual (L2.defScope s4) f fd s H (a, oe))) :
    ∃ t, PSs (cxHot X n4 d4.qual (L2.defScope s4) f fd s H (a, oe)) (L2.defBody s4) t ∧ t { nx := fun _ H' => Q .non H', rt := Q } (L2.start n4 [.ref a]) H := by
  obtain ⟨p0, p1, p2, p3, p4, p5, p6, p7, p8, p9, p10, p11, p12, p13, p14, p15, p16, p17, p18, p19, p20, p21, p22, p23, p24, p25, p26, p27, p28, p29, p30, p31, p32, p33, p34, p35, p36, p37, p38, p39, p40, p41, p42, p43, p44, p45, p46, p47, p48, p49, p50, p51, p52, p53, p54, p55, p56, p57, p58, p59, p60, p61, p62, p63, p64, p65, p66, p67, p68, p69, p70, p71, p72, p73, p74, p75, k0, c0, eb, ok, hk1, hk2⟩ := kbody
  rw [eb]
  have lt : k < (WW w K).nx := by
    show k < xs.length
    rcases hk with rfl | rfl | rfl <;> decide
  generalize hX : cxHot X n4 d4.qual (L2.defScope s4) f fd s H (a, oe) = Y at hB
  have hN : Y.N = n4 := by rw [← hX]; rfl
  have nd : Y.N.Nodup := by rw [hN]; decide
  have hYK : Y.K = K := by rw [← hX]; exact hK
  have hsc : Y.env.scope = L2.defScope s4 := by rw [← hX]; rfl
  have hmg : Y.mg = X.mg := by rw [← hX]; rfl
  have hpn : (a, oe) ∈ Y.pn := by rw [← hX]; exact List.mem_cons_self
  have hfn : ∀ x, Y.fn x = true := fun x => by rw [← hX]; rfl
  have gl : ∀ x, gloB (L2.defScope s4) x = true → Gl Y x := fun x h => by
    unfold gloB at h
    split at h
    · rename_i e
      show Y.env.scope.names.lookup x = _
      rw [hsc]
      exact e
    · cases h
  have vs : ∀ x, visB (L2.defScope s4) x = true → Vis Y.env.scope x := fun x h => by
    unfold visB at h
    rw [hsc]
    split at h
    · exact .inl (by assumption)
    · exact .inr (.inl (by assumption))
    · exact .inr (.inr (by assumption))
    · cases h
  have ni : ∀ (i : Nat) (x : Str), n4[i]? = some x → Y.N[i]? = some x := fun i x h => by rw [hN]; exact h
  have iss : Y.mg "isinstance" = none := by rw [hmg]; exact hfree
  have enu : Y.mg "enumerate" = none := by rw [hmg]; exact hfree2
  have v0 : Vis Y.env.scope "made" := vs _ rfl
  have v1 : Vis Y.env.scope "some" := vs _ rfl
  have lo : Loc Y.env.scope "some" := by rw [hsc]; exact loc_of rfl
  have Y3 : ExcC Y.K ((WW w K).xa k) := by
    rw [hYK]
    obtain ⟨v, cv, _, _, _, h4⟩ := hx "NoText" [0] rfl
    exact (h4 k lt).1
  obtain ⟨w0, cv0, m0, r0, u0, h0⟩ := hx "NoText" [0] rfl
  have e0 : PySem.W.kitOne Y.K (.ref ((WW w K).xa k)) cv0 = some (decide (k ∈ [0])) := by
    rw [hYK]
    exact (h0 k lt).2
  rw [← hmg] at m0
  obtain ⟨w1, cv1, m1, r1, u1, h1⟩ := hx "NoBook" [1] rfl
  have e1 : PySem.W.kitOne Y.K (.ref ((WW w K).xa k)) cv1 = some (decide (k ∈ [1])) := by
    rw [hYK]
    exact (h1 k lt).2
  rw [← hmg] at m1
  obtain ⟨w2, cv2, m2, r2, u2, h2⟩ := hx "NoPaper" [2] rfl
  have e2 : PySem.W.kitOne Y.K (.ref ((WW w K).xa k)) cv2 = some (decide (k ∈ [2])) := by
    rw [hYK]
    exact (h2 k lt).2
  rw [← hmg] at m2
  obtain ⟨w3, cv3, m3, r3, u3, h3⟩ := hx "NoStand" [3] rfl
  have e3 : PySem.W.kitOne Y.K (.ref ((WW w K).xa k)) cv3 = some (decide (k ∈ [3])) := by
    rw [hYK]
    exact (h3 k lt).2
  rw [← hmg] at m3
  obtain ⟨w4, cv4, m4, r4, u4, h4⟩ := hx "NoRow" [4] rfl
  have e4 : PySem.W.kitOne Y.K (.ref ((WW w K).xa k)) cv4 = some (decide (k ∈ [4])) := by
    rw [hYK]
    exact (h4 k lt).2
  rw [← hmg] at m4
  obtain ⟨w5, cv5, m5, r5, u5, h5⟩ := hx "NoDoor" [5] rfl
  have e5 : PySem.W.kitOne Y.K (.ref ((WW w K).xa k)) cv5 = some (decide (k ∈ [5])) := by
    rw [hYK]
    exact (h5 k lt).2
  rw [← hmg] at m5
  obtain ⟨w6, cv6, m6, r6, u6, h6⟩ := hx "NoTurn" [6] rfl
  have e6 : PySem.W.kitOne Y.K (.ref ((WW w K).xa k)) cv6 = some (decide (k ∈ [6])) := by
    rw [hYK]
    exact (h6 k lt).2
  rw [← hmg] at m6
  obtain ⟨w7, cv7, m7, r7, u7, h7⟩ := hx "NoName" [7] rfl
  have e7 : PySem.W.kitOne Y.K (.ref ((WW w K).xa k)) cv7 = some (decide (k ∈ [7])) := by
    rw [hYK]
    exact (h7 k lt).2
  rw [← hmg] at m7
  obtain ⟨w8, cv8, m8, r8, u8, h8⟩ := hx "Taken" [8] rfl
  have e8 : PySem.W.kitOne Y.K (.ref ((WW w K).xa k)) cv8 = some (decide (k ∈ [8])) := by
    rw [hYK]
    exact (h8 k lt).2
  rw [← hmg] at m8
  obtain ⟨w9, cv9, m9, r9, u9, h9⟩ := hx "NoCode" [9] rfl
  have e9 : PySem.W.kitOne Y.K (.ref ((WW w K).xa k)) cv9 = some (decide (k ∈ [9])) := by
    rw [hYK]
    exact (h9 k lt).2
  rw [← hmg] at m9
  obtain ⟨w10, cv10, m10, r10, u10, h10⟩ := hx "InUse" [10] rfl
  have e10 : PySem.W.kitOne Y.K (.ref ((WW w K).xa k)) cv10 = some (decide (k ∈ [10])) := by
    rw [hYK]
    exact (h10 k lt).2
  rw [← hmg] at m10
  obtain ⟨w11, cv11, m11, r11, u11, h11⟩ := hx "Absent" [11] rfl
  have e11 : PySem.W.kitOne Y.K (.ref ((WW w K).xa k)) cv11 = some (decide (k ∈ [11])) := by
    rw [hYK]
    exact (h11 k lt).2
  rw [← hmg] at m11
  have i0 := pe_callB (p := p1) (pos := p4) (call_isD Y3 hpn hz hf) (gl "isinstance" rfl) iss boot_isi (pa_cons (pe_var (pos := p2) (ni 0 "made" rfl) v0 rfl rfl) (pa_cons (pe_cls (p2 := p3) (gl "NoText" rfl) m0 r0 rfl) pa_nil)) (by decide) rfl
  have i1 := pe_callB (p := p5) (pos := p8) (call_isD Y3 hpn hz hf) (gl "isinstance" rfl) iss boot_isi (pa_cons (pe_var (pos := p6) (ni 0 "made" rfl) v0 rfl rfl) (pa_cons (pe_cls (p2 := p7) (gl "NoBook" rfl) m1 r1 rfl) pa_nil)) (by decide) rfl
  have i2 := pe_callB (p := p9) (pos := p12) (call_isD Y3 hpn hz hf) (gl "isinstance" rfl) iss boot_isi (pa_cons (pe_var (pos := p10) (ni 0 "made" rfl) v0 rfl rfl) (pa_cons (pe_cls (p2 := p11) (gl "NoPaper" rfl) m2 r2 rfl) pa_nil)) (by decide) rfl
  have i3 := pe_callB (p := p13) (pos := p16) (call_isD Y3 hpn hz hf) (gl "isinstance" rfl) iss boot_isi (pa_cons (pe_var (pos := p14) (ni 0 "made" rfl) v0 rfl rfl) (pa_cons (pe_cls (p2 := p15) (gl "NoStand" rfl) m3 r3 rfl) pa_nil)) (by decide) rfl
  have i4 := pe_callB (p := p21) (pos := p24) (call_isD Y3 hpn hz hf) (gl "isinstance" rfl) iss boot_isi (pa_cons (pe_var (pos := p22) (ni 0 "made" rfl) v0 rfl rfl) (pa_cons (pe_cls (p2 := p23) (gl "NoRow" rfl) m4 r4 rfl) pa_nil)) (by decide) rfl
  have i5 := pe_callB (p := p25) (pos := p28) (call_isD Y3 hpn hz hf) (gl "isinstance" rfl) iss boot_isi (pa_cons (pe_var (pos := p26) (ni 0 "made" rfl) v0 rfl rfl) (pa_cons (pe_cls (p2 := p27) (gl "NoDoor" rfl) m5 r5 rfl) pa_nil)) (by decide) rfl
  have i6 := pe_callB (p := p29) (pos := p32) (call_isD Y3 hpn hz hf) (gl "isinstance" rfl) iss boot_isi (pa_cons (pe_var (pos := p30) (ni 0 "made" rfl) v0 rfl rfl) (pa_cons (pe_cls (p2 := p31) (gl "NoTurn" rfl) m6 r6 rfl) pa_nil)) (by decide) rfl
  have i7 := pe_callB (p := p38) (pos := p41) (call_isD Y3 hpn hz hf) (gl "isinstance" rfl) iss boot_isi (pa_cons (pe_var (pos := p39) (ni 0 "made" rfl) v0 rfl rfl) (pa_cons (pe_cls (p2 := p40) (gl "NoName" rfl) m7 r7 rfl) pa_nil)) (by decide) rfl
  have i8 := pe_callB (p := p42) (pos := p45) (call_isD Y3 hpn hz hf) (gl "isinstance" rfl) iss boot_isi (pa_cons (pe_var (pos := p43) (ni 0 "made" rfl) v0 rfl rfl) (pa_cons (pe_cls (p2 := p44) (gl "Taken" rfl) m8 r8 rfl) pa_nil)) (by decide) rfl
  have i9 := pe_callB (p := p46) (pos := p49) (call_isD Y3 hpn hz hf) (gl "isinstance" rfl) iss boot_isi (pa_cons (pe_var (pos := p47) (ni 0 "made" rfl) v0 rfl rfl) (pa_cons (pe_cls (p2 := p48) (gl "NoCode" rfl) m9 r9 rfl) pa_nil)) (by decide) rfl
  have i10 := pe_callB (p := p55) (pos := p58) (call_isD Y3 hpn hz hf) (gl "isinstance" rfl) iss boot_isi (pa_cons (pe_var (pos := p56) (ni 0 "made" rfl) v0 rfl rfl) (pa_cons (pe_cls (p2 := p57) (gl "InUse" rfl) m10 r10 rfl) pa_nil)) (by decide) rfl
  have i11 := pe_callB (p := p59) (pos := p62) (call_isD Y3 hpn hz hf) (gl "isinstance" rfl) iss boot_isi (pa_cons (pe_var (pos := p60) (ni 0 "made" rfl) v0 rfl rfl) (pa_cons (pe_cls (p2 := p61) (gl "Absent" rfl) m11 r11 rfl) pa_nil)) (by decide) rfl
  have fnk : ∀ (s : Shared) (H : Hp) (C : Addr) (cl : List (Str × Addr)) (fp : List Addr) (x : Str), (relS c0 (L2.defScope s4)).names.lookup x = some .local → (Y.blk s H c0 (compEnvC c0 cl C Y.env) fp).env.scope.names.lookup x = some .local := fun s H C cl fp x h => by
    rw [← hsc] at h
    exact h
  have lc := pe_lcH (X := Y) (elt := .Name "k" p66) (tg := .Tuple [.Name "k" p67, .Name "one" p68] k0 p69) (iter := .Call (.Name "enumerate" p70) [.Name "some" p71] [] p72) (ifs := [.Name "one" p73]) (scope := c0) (pos := p74) (own := [("k", 2), ("one", 3)]) (g := gTup Y.K 2 (gCons (gName 2) (gCons (gName 3) gNil))) hB nd
    (pi_enumE (gl "enumerate" rfl) enu (pa_cons (pe_var (ni 1 "some" rfl) v1 rfl rfl) pa_nil)) (by rw [hN, hsc]; exact blkOk_by ok)
    (fun s H C cl fp hb => pg_tupH (n := 2) hb (pgs_cons (pg_name (X := Y.blk s H c0 (compEnvC c0 cl C Y.env) fp) nd (ni 2 "k" rfl) (.inl (fnk s H C cl fp _ hk1)) (.inr (fnk s H C cl fp _ hk1))) (pgs_cons (pg_name (X := Y.blk s H c0 (compEnvC c0 cl C Y.env) fp) nd (ni 3 "one" rfl) (.inl (fnk s H C cl fp _ hk2)) (.inr (fnk s H C cl fp _ hk2))) pgs_nil)))
    (fun s H C cl fp => pts_one (pt_val (pe_var (X := Y.blk s H c0 (compEnvC c0 cl C Y.env) fp) (ni 3 "one" rfl) (.inl (fnk s H C cl fp _ hk2)) rfl rfl)))
    (fun s H C cl fp => pe_var (X := Y.blk s H c0 (compEnvC c0 cl C Y.env) fp) (ni 2 "k" rfl) (.inl (fnk s H C cl fp _ hk1)) rfl rfl)
  refine ⟨_, pss_cons (ps_set nd (ni 1 "some" rfl) lo (pe_lst (pa_cons i0 (pa_cons i1 (pa_cons i2 (pa_cons i3 (pa_nil)))))) rfl (.inl (hfn _))) (pss_cons (ps_set nd (ni 1 "some" rfl) lo (pe_op op_cat (pe_var (ni 1 "some" rfl) v1 rfl rfl) (pe_lst (pa_cons i4 (pa_cons i5 (pa_cons i6 (pa_nil)))))) rfl (.inl (hfn _))) (pss_cons (ps_set nd (ni 1 "some" rfl) lo (pe_op op_cat (pe_var (ni 1 "some" rfl) v1 rfl rfl) (pe_lst (pa_cons i7 (pa_cons i8 (pa_cons i9 (pa_nil)))))) rfl (.inl (hfn _))) (pss_cons (ps_set nd (ni 1 "some" rfl) lo (pe_op op_cat (pe_var (ni 1 "some" rfl) v1 rfl rfl) (pe_lst (pa_cons i10 (pa_cons i11 (pa_nil))))) rfl (.inl (hfn _))) (pss_one (ps_ret lc))))), ?_⟩
  have st0 : L2.start n4 [.ref a] = [some (.ref a), none, none, none] := rfl
  rw [st0]
  refine isT rfl hd u0 e0 (isT rfl hd u1 e1 (isT rfl hd u2 e2 (isT rfl hd u3 e3 (⟨show 4 ≤ sizeLine by decide, fun p1 n1 => ?_⟩))))
  have k1 := up_keep (u := .lst [.bl (decide (k ∈ [0])), .bl (decide (k ∈ [1])), .bl (decide (k ∈ [2])), .bl (decide (k ∈ [3]))]) n1
  refine ⟨.ref p1, rfl, ?_⟩
  refine isT rfl (k1 d _ hd) u4 e4 (isT rfl (k1 d _ hd) u5 e5 (isT rfl (k1 d _ hd) u6 e6 (⟨show 3 ≤ sizeLine by decide, fun q1 z1 => ?_⟩)))
  refine ⟨p1, q1, [.bl (decide (k ∈ [0])), .bl (decide (k ∈ [1])), .bl (decide (k ∈ [2])), .bl (decide (k ∈ [3]))], [.bl (decide (k ∈ [4])), .bl (decide (k ∈ [5])), .bl (decide (k ∈ [6]))], rfl, rfl, by rw [upd_ne (ne_of_none upd_same z1)]; exact upd_same, upd_same, show 7 ≤ sizeLine by decide, fun p2 n2 => ?_⟩
  have k2 := fun b o h => up_keep (u := .lst [.bl (decide (k ∈ [4])), .bl (decide (k ∈ [5])), .bl (decide (k ∈ [6]))]) z1 b o (k1 b o h)
  have k3 := fun b o h => up_keep (u := .lst [.bl (decide (k ∈ [0])), .bl (decide (k ∈ [1])), .bl (decide (k ∈ [2])), .bl (decide (k ∈ [3])), .bl (decide (k ∈ [4])), .bl (decide (k ∈ [5])), .bl (decide (k ∈ [6]))]) n2 b o (k2 b o h)
  refine ⟨.ref p2, rfl, ?_⟩
  refine isT rfl (k3 d _ hd) u7 e7 (isT rfl (k3 d _ hd) u8 e8 (isT rfl (k3 d _ hd) u9 e9 (⟨show 3 ≤ sizeLine by decide, fun q2 z2 => ?_⟩)))
  refine ⟨p2, q2, [.bl (decide (k ∈ [0])), .bl (decide (k ∈ [1])), .bl (decide (k ∈ [2])), .bl (decide (k ∈ [3])), .bl (decide (k ∈ [4])), .bl (decide (k ∈ [5])), .bl (decide (k ∈ [6]))], [.bl (decide (k ∈ [7])), .bl (decide (k ∈ [8])), .bl (decide (k ∈ [9]))], rfl, rfl, by rw [upd_ne (ne_of_none upd_same z2)]; exact upd_same, upd_same, show 10 ≤ sizeLine by decide, fun p3 n3 => ?_⟩
  have k4 := fun b o h => up_keep (u := .lst [.bl (decide (k ∈ [7])), .bl (decide (k ∈ [8])), .bl (decide (k ∈ [9]))]) z2 b o (k3 b o h)
  have k5 := fun b o h => up_keep (u := .lst [.bl (decide (k ∈ [0])), .bl (decide (k ∈ [1])), .bl (decide (k ∈ [2])), .bl (decide (k ∈ [3])), .bl (decide (k ∈ [4])), .bl (decide (k ∈ [5])), .bl (decide (k ∈ [6])), .bl (decide (k ∈ [7])), .bl (decide (k ∈ [8])), .bl (decide (k ∈ [9]))]) n3 b o (k4 b o h)
  refine ⟨.ref p3, rfl, ?_⟩
  refine isT rfl (k5 d _ hd) u10 e10 (isT rfl (k5 d _ hd) u11 e11 (⟨show 2 ≤ sizeLine by decide, fun q3 z3 => ?_⟩))
  refine ⟨p3, q3, [.bl (decide (k ∈ [0])), .bl (decide (k ∈ [1])), .bl (decide (k ∈ [2])), .bl (decide (k ∈ [3])), .bl (decide (k ∈ [4])), .bl (decide (k ∈ [5])), .bl (decide (k ∈ [6])), .bl (decide (k ∈ [7])), .bl (decide (k ∈ [8])), .bl (decide (k ∈ [9]))], [.bl (decide (k ∈ [10])), .bl (decide (k ∈ [11]))], rfl, rfl, by rw [upd_ne (ne_of_none upd_same z3)]; exact upd_same, upd_same, show 12 ≤ sizeLine by decide, fun p4 n4 => ?_⟩
  have k6 := fun b o h => up_keep (u := .lst [.bl (decide (k ∈ [10])), .bl (decide (k ∈ [11]))]) z3 b o (k5 b o h)
  have k7 := fun b o h => up_keep (u := .lst [.bl (decide (k ∈ [0])), .bl (decide (k ∈ [1])), .bl (decide (k ∈ [2])), .bl (decide (k ∈ [3])), .bl (decide (k ∈ [4])), .bl (decide (k ∈ [5])), .bl (decide (k ∈ [6])), .bl (decide (k ∈ [7])), .bl (decide (k ∈ [8])), .bl (decide (k ∈ [9])), .bl (decide (k ∈ [10])), .bl (decide (k ∈ [11]))]) n4 b o (k6 b o h)
  refine ⟨.ref p4, rfl, p4, bsF k, rfl, .of upd_same, fun D hD => ?_⟩
  generalize hH : upd _ p4 (HO.lst _) = H4 at hD ⊢
  have k7 : ∀ b o, H b = some o → H4 b = some o := by
    rw [← hH]
    exact k7
  have h4 : H4 p4 = some (.lst (bsF k)) := by
    rw [← hH]
    exact upd_same
  have nD : H D = none := by
    cases e : H D with
    | none => rfl
    | some o =>
      rw [k7 D o e] at hD
      cases hD
  refine lc_it (walk_enum (K := Y.K) (a := p4) (xs := bsF k)) (fun i H' => H' p4 = some (.lst (bsF k)) ∧ H' D = some (.lst (acF k i)) ∧ ∀ b o, H4 b = some o → H' b = some o) ⟨?_, upd_same, up_keep hD⟩ (fun i H' _ h => .of h.1) (fun i x H1 H2 hi hp hy => ?_) fun H' ⟨_, h2, h3⟩ => ?_
  · rw [upd_ne (ne_of_none h4 hD)]
    exact h4
  · obtain ⟨g1, g2, g3⟩ := hp
    obtain ⟨T, x, y, rfl, hT, rfl, hx, hy⟩ := hy
    cases hx
    have hi : i < 12 := hi
    have hy := (bsF_at (k := k) hi).symm.trans hy
    cases hy
    refine ⟨T, _, rfl, .of upd_same, rfl, _, _, rfl, _, _, rfl, rfl, rfl, ?_⟩
    refine ⟨_, rfl, _, rfl, ?_⟩
    have gT1 : upd H1 T (.tup [.int (i : Nat), .bl (decide (k ∈ [i]))]) p4 = some (.lst (bsF k)) := up_keep hT _ _ g1
    have gT2 : upd H1 T (.tup [.int (i : Nat), .bl (decide (k ∈ [i]))]) D = some (.lst (acF k i)) := up_keep hT _ _ g2
    have gT3 : ∀ b o, H4 b = some o → upd H1 T (.tup [.int (i : Nat), .bl (decide (k ∈ [i]))]) b = some o := fun b o h => up_keep hT _ _ (g3 b o h)
    have hs := acF_step (k := k) (i := i)
    show ite (decide (k ∈ [i]) = true) _ _
    by_cases hb : decide (k ∈ [i]) = true
    · rw [if_pos hb] at hs ⊢
      refine ⟨_, rfl, acF k i, gT2, ?_, ?_, ?_, fun b o h => ?_⟩
      · have := acF_len (k := k) (i := i)
        have : 12 ≤ sizeLine := by decide
        omega
      · rw [upd_ne (ne_of_none h4 hD)]
        exact gT1
      · rw [hs]
        exact upd_same
      · rw [upd_ne (ne_of_none h hD)]
        exact gT3 b o h
    · rw [if_neg hb] at hs ⊢
      refine ⟨gT1, ?_, gT3⟩
      rw [hs]
      exact gT2
  · have h2 : H' D = some (.lst (acF k 12)) := h2
    rw [acF_one hk] at h2
    exact q D H' (fun b o h => h3 b o (k7 b o h)) nD h2
end
end K05
end
section
set_option Elab.async false
set_option linter.all false
set_option maxRecDepth 100000
set_option maxHeartbeats 4000000
/-! _law_raised: what is caught of three that are raised. -/
namespace K05
open PySem PC L2
theorem bodyT : ∃ (p0 p1 p2 p3 p4 p5 p6 p7 p8 p9 p10 p11 p12 p13 p14 p15 p16 p17 p18 p19 p20 p21 p22 p23 p24 p25 p26 p27 p28 p29 p30 p31 p32 p33 p34 p35 p36 p37 p38 p39 p40 p41 p42 p43 p44 p45 p46 p47 p48 p49 p50 p51 p52 p53 p54 p55 p56 p57 p58 p59 p60 : Pos) (k0 k1 k2 : Nat), L2.defBody s8 = [.Assign [(.Name "found" p0)] (.List [] p1) p2, .Try [.Raise (some (.Call (.Name "NoDoor" p3) [(.Name "thing" p4)] [] p5)) none p6] [.ExceptHandler (some (.Name "FerryError" p7)) (some "e") [.Expr (.Call (.Attribute (.Name "found" p8) "append" p9) [(.Tuple [(.Call (.Name "_law_kinds" p10) [(.Name "e" p11)] [] p12), (.Call (.Name "repr" p13) [(.Name "thing" p14)] [] p15)] k0 p16)] [] p17) p18] p19] [] [] p20, .Try [.Raise (some (.Call (.Name "Absent" p21) [(.Name "thing" p22)] [] p23)) none p24] [.ExceptHandler (some (.Name "Absent" p25)) (some "e") [.Expr (.Call (.Attribute (.Name "found" p26) "append" p27) [(.Tuple [(.Call (.Name "_law_kinds" p28) [(.Name "e" p29)] [] p30), (.Call (.Name "repr" p31) [(.Attribute (.Name "e" p32) "name" p33)] [] p34)] k1 p35)] [] p36) p37] p38] [] [] p39, .Try [.Raise (some (.Call (.Name "InUse" p40) [(.Name "thing" p41)] [] p42)) none p43] [.ExceptHandler (some (.Name "InUse" p44)) (some "e") [.Expr (.Call (.Attribute (.Name "found" p45) "append" p46) [(.Tuple [(.Call (.Name "_law_kinds" p47) [(.Name "e" p48)] [] p49), (.Call (.Name "repr" p50) [(.Attribute (.Name "e" p51) "run" p52)] [] p53)] k2 p54)] [] p55) p56] p57] [] [] p58, .Return (some (.Name "found" p59)) p60] ∧ (p9.endLine == p17.line) = true ∧ (p27.endLine == p36.line) = true ∧ (p46.endLine == p55.line) = true := ⟨_, _, _, _, _, _, _, _, _, _, _, _, _, _, _, _, _, _, _, _, _, _, _, _, _, _, _, _, _, _, _, _, _, _, _, _, _, _, _, _, _, _, _, _, _, _, _, _, _, _, _, _, _, _, _, _, _, _, _, _, _, _, _, _, rfl, by kernel_rfl, by kernel_rfl, by kernel_rfl⟩
def apC (k : Int) : CS := .exp (.meth (.var 1) "append" (.cons (.tupE (.cons (.lstE (.cons (.int k) .nil)) (.cons (.bi .repr (.cons (.var 0) .nil)) .nil))) .nil))
theorem c8_eq : c8 = .cons (.set (.name 1) (.lstE .nil)) (.cons (apC 5) (.cons (apC 11) (.cons (apC 10) (.cons (.ret (.var 1)) .nil)))) := rfl
section
variable {C : Cal} {e e' : En} {S S' : Sto} {f : Fl}
theorem ap_ex {k : Int} {n : Nat} {xs : List D} (h1 : e[1]? = some (some (.ref n))) (hn : n < S.length) (h2 : S[n]? = some (.lst xs)) (h : exS C (apC k) e S = some (f, e', S')) :
    ∃ x r, e[0]? = some (some x) ∧ isLam x = false ∧ reprD x (S ++ [Ob.lst [D.int k]]) = some r ∧ xs.length < line ∧ f = .nx ∧ e' = e ∧ S' = (S ++ [Ob.lst [D.int k]]).set n (.lst (xs ++ [.tup [.ref S.length, .str r]])) := by
  have h2' : (S ++ [Ob.lst [D.int k]])[n]? = some (.lst xs) := by rw [List.getElem?_append_left hn]; exact h2
  simp only [apC, exS] at h
  obtain ⟨d, S1, ev, h⟩ := bnS_some h
  cases h
  obtain ⟨x, S1, ys, S2, e1, _, e2, e3⟩ := ev_met ev
  simp only [evE, h1, isLam, Bool.false_eq_true, if_false] at e1
  cases e1
  obtain ⟨y, rfl, f2⟩ := ev_one e2
  simp only [evE] at f2
  obtain ⟨zs, S3, e4, g2⟩ := bnd_some f2
  simp only [evEs] at e4
  obtain ⟨z1, S4, e5, e4⟩ := bnd_some e4
  obtain ⟨r4, S5, e6, e4⟩ := bnd_some e4
  obtain ⟨z2, S6, e7, e6⟩ := bnd_some e6
  obtain ⟨r6, S7, e8, e6⟩ := bnd_some e6
  cases e8
  cases e6
  cases e4
  have l5 : evE C (.lstE (.cons (.int k) .nil)) e S = some (.ref S.length, S ++ [Ob.lst [D.int k]]) := by
    simp only [evE, evEs, bnd]
    rfl
  rw [l5] at e5
  cases e5
  simp only [evE, evEs] at e7
  obtain ⟨ws, S8, e9, e7⟩ := bnd_some e7
  obtain ⟨w1, S9, ea, e9⟩ := bnd_some e9
  obtain ⟨_, _, eb, e9⟩ := bnd_some e9
  cases eb
  cases e9
  cases h0 : e[0]? with
  | none => simp [h0] at ea
  | some o =>
    cases o with
    | none => simp [h0] at ea
    | some x =>
      cases hl : isLam x with
      | true => simp [h0, hl] at ea
      | false =>
        simp [h0, hl] at ea
        obtain ⟨rfl, rfl⟩ := ea
        simp only [biD, bi1, giv, Option.map_map, Option.map_eq_some_iff, Function.comp_apply] at e7
        obtain ⟨r, er, e7⟩ := e7
        cases e7
        rw [if_pos (show ([D.ref S.length, D.str r]).length ≤ line from show 2 ≤ line by decide)] at g2
        cases g2
        have e3 : mAppend (.ref n) (.tup [.ref S.length, .str r]) (S ++ [Ob.lst [D.int k]]) = some (d, S') := e3
        unfold mAppend at e3
        simp only [h2'] at e3
        split at e3
        · rename_i hz
          cases e3
          exact ⟨x, r, rfl, hl, er, hz, rfl, rfl, rfl⟩
        · cases e3
end
section
variable {w : World} {K : PySem.W.Frag} {mg : Str → Option Value} {base h : Heap}
theorem exm_at (hx : exmB K = true) {x y : Str} {b : Bool} (hm : (x, y, b) ∈ exms) : PySem.W.exmOne K (.ref (He.ga K x)) (.ref (He.ga K y)) = some b :=
  of_decide_eq_true (List.all_eq_true.mp hx _ hm)
/-- _law_kinds of what the suite holds, slot 2 -/
def tKd (C : Addr) (k : Nat) (a : Addr) (cls : Value) (dd : Option Addr) : TE := fun σ H Q => σ[2]? = some (some (.ref a)) ∧ cls = .ref C ∧ ∃ d fs, dd = some d ∧ H d = some (.xd fs) ∧ ∀ p H', (∀ b o, H b = some o → H' b = some o) → H p = none → H' p = some (.lst [.int (k : Nat)]) → Q (.ref p) H'
/-- the suite -/
def tApp (W : Wd) (K : PySem.W.Frag) (C : Addr) (k : Nat) (th : Addr → Value → Option Addr → TE) (a : Addr) (cls : Value) (dd : Option Addr) : TS := tDrop (tBM K "list" rAppend (tVar 1) (tCons (tTup (tCons (tKd C k a cls dd) (tCons (tCB (rBi W .repr) (tCons (th a cls dd) tNil)) tNil))) tNil))
theorem pe_kinds {X : Cx} {a : Addr} {oe : Obj} {cls : Value} {dd : Option Addr} {pn : List (Addr × Obj)} {k : Nat} {q p2 pos : Pos} {fd4 : FuncData} {f4 : Addr} (hK : X.K = K) (hx : ∀ y cs, gam.xis.lookup y = some cs → XiOk (WW w K) K X.mg y cs) (hfree : X.mg "isinstance" = none) (hfree2 : X.mg "enumerate" = none)
    (hk : k = 5 ∨ k = 10 ∨ k = 11) (D4 : FunD K d4.x d4.qual (L2.defArgs s4) (L2.defBody s4) (L2.defScope s4) [] [] f4 fd4) (hm : X.mg "_law_kinds" = some (.ref f4)) (hr : Room 2 X.A) (hg : Gl X "_law_kinds") (hN : X.N[2]? = some ("e" : Str)) (hv : Vis X.env.scope "e") (hz : L2N.Zn cls dd oe) (hf : ∃ vs, oe.data = .fields vs) :
    PE (X.suite a ((a, oe) :: pn)) (.Call (.Name "_law_kinds" q) [.Name "e" p2] [] pos) (tKd ((WW w K).xa k) k a cls dd) := by
  subst hK
  refine ⟨fun pins s σ H Q I ⟨h0, ec, d, fs, ed, hd, qq⟩ => ?_⟩
  subst ec ed
  have bd : L2.Binds X.K fd4 ["made"] [] := D4.bindsN fun kV doc pm an cdv ct us hl => df4.bd rfl kV doc pm an cdv ct us hl
  refine wpAny_Call_Name_kw (ld_glob (X := X.suite a ((a, oe) :: pn)) I hg hm ?_ (by decide))
  refine PySem.W.callWith_K (h₀ := X.base) I.ok.mod.kin D4.kp (thn ((pa_cons (pe_var (X := X.suite a ((a, oe) :: pn)) (pos := p2) hN hv rfl rfl) pa_nil).run pos pins s σ H (fun vs H1 => vs = [.ref a] ∧ H1 = H) I ⟨.ref a, h0, rfl, rfl⟩) fun us s1 ⟨vs, H1, I1, r, e1, e2⟩ => ⟨I1.kIn, ?_⟩) rfl rfl
  subst e1 e2
  have hot : L2H.Hot1 (X.suite a ((a, oe) :: pn)).A (a, oe) := by
    obtain ⟨vs, hd⟩ := hf
    exact ⟨rfl, vs, hd, hz.2.2 vs hd⟩
  exact run_hot (X := X.suite a ((a, oe) :: pn)) (k := 1) (p := (a, oe)) D4 (scopeB_ok df4.sc) hot List.mem_cons_self ⟨hr.dp, hr.un⟩ bd I1 r rfl fun hB => kinds_body (X := X.suite a ((a, oe) :: pn)) rfl hx hfree hfree2 ⟨hz.1, hz.2.1⟩ hf hk hd qq hB
/-- the way of one try, from raise to behind the suite -/
theorem ap_way {ini : String} {ι : List Addr} {S : Sto} {H : Hp} {en : En} {σ : L2.St} {Z : Ends} {k n : Nat} {C Cy : Addr} {f : Str} {x : D} {r : Str} {xs : List D} {th : Addr → Value → Option Addr → TE} (T : OexG K ini C) (no : PySem.W.findIn K (.ref C) f = some none) (em : PySem.W.exmOne K (.ref C) (.ref Cy) = some true) (len : σ.length = 3) (R : Rep (WW w K) ι S H) (Ve : EnV (WW w K) ι H en σ)
    (h2 : ∀ d, en[2]? ≠ some (some d)) (h0 : en[0]? = some (some x)) (hl : isLam x = false) (h1 : en[1]? = some (some (.ref n))) (hn : n < S.length) (hs : S[n]? = some (.lst xs)) (hz : xs.length < line) (hr : reprD x (S ++ [Ob.lst [D.int (k : Nat)]]) = some r)
    (hth : ∀ a dx v σ' H' (Q : VK), σ'[0]? = some (some v) → σ'[2]? = some (some (.ref a)) → H' dx = some (.xd [(f, v)]) → Q v H' → th a (.ref C) (some dx) σ' H' Q)
    (go : ∀ ι' H' σ', Rep (WW w K) ι' ((S ++ [Ob.lst [D.int (k : Nat)]]).set n (.lst (xs ++ [.tup [.ref S.length, .str r]]))) H' → Ext ι S H ι' ((S ++ [Ob.lst [D.int (k : Nat)]]).set n (.lst (xs ++ [.tup [.ref S.length, .str r]]))) H' → EnV (WW w K) ι' H' en σ' → σ'.length = 3 → Z.nx σ' H') :
    tRz K ini C f (tVar 0) (wAs K (.ref Cy) 2 (tApp (WW w K) K C k th) (fun _ _ _ _ => False) Z) Z σ H := by
  obtain ⟨v, sv, dv⟩ := Ve.2 0 _ h0
  have hv := dv.dv hl
  obtain ⟨lv, sl, dl⟩ := Ve.2 1 _ h1
  obtain ⟨l, rfl, hl1⟩ := dl.dv (d := .ref n) rfl
  refine rz_var (D := Z) T no sv fun dx hd => ⟨true, em, fun _ a ha => ?_, fun z => nomatch z⟩
  obtain ⟨R1, E1⟩ := R.put hd (.xd [(f, v)])
  refine ⟨.ref l, by rw [List.getElem?_set_ne (by decide)]; exact sl, metK_ref (S := S) (n := n) (by unfold metK; simp only [hs]) R1 ⟨l, rfl, hl1⟩, ?_⟩
  refine ⟨by rw [List.getElem?_set_self (by omega)], rfl, dx, [(f, v)], rfl, upd_same, fun p H2 hk hp hpl => ?_⟩
  obtain ⟨R2, E2, hpn⟩ := R1.growL (xs := [.int (k : Nat)]) hk hp hpl ⟨_, _, rfl, rfl, rfl⟩
  refine hth a dx v _ _ _ (by rw [List.getElem?_set_ne (by decide)]; exact sv) (by rw [List.getElem?_set_self (by omega)]) (hk _ _ upd_same) ?_
  refine ⟨ι ++ [p], S ++ [Ob.lst [D.int (k : Nat)]], [x], .str r, S ++ [Ob.lst [D.int (k : Nat)]], R2, ⟨v, [], rfl, DV.mono (E1.trans R1 E2) R _ _ hv, rfl⟩, ?_, fun ι3 H3 u E3 R3 hu => ?_⟩
  · simp only [biD, bi1, giv, hr, Option.map_some]
  · cases (show u = .str r from hu)
    refine ⟨show 2 ≤ sizeLine by decide, fun q hq => ?_⟩
    obtain ⟨R4, E4⟩ := R3.put hq (.tup [.ref p, .str r])
    have hl3 : ι3[n]? = some l := by
      have := (E1.trans R1 (E2.trans R2 E3)).get hl1
      exact this
    have hp3 : ι3[S.length]? = some p := E3.get hpn
    have hs3 : (S ++ [Ob.lst [D.int (k : Nat)]])[n]? = some (.lst xs) := by rw [List.getElem?_append_left hn]; exact hs
    obtain ⟨vs, q1, q2⟩ := R4.ob n l _ hl3 hs3
    refine ⟨l, vs, .ref q, rfl, rfl, q1, by rw [← DVs.length q2, ← line_eq]; exact hz, ?_⟩
    have dt : DV (WW w K) ι3 (upd H3 q (.tup [.ref p, .str r])) (.tup [.ref S.length, .str r]) (.ref q) := ⟨q, [.ref p, .str r], rfl, .inl (.inl upd_same), _, _, rfl, ⟨p, rfl, hp3⟩, _, _, rfl, rfl, rfl⟩
    refine Gd.set (W := WW w K) (Q := fun _ H' => Z.nx (((σ.set 2 (some (.ref a))).set 2 none)) H') (d := .non) (v := .non) (o := .lst (xs ++ [.tup [.ref S.length, .str r]])) (fun ι5 H5 u E5 R5 _ => ?_) R4 hl3 (fz_lst hs3) (fun Ew => ⟨vs ++ [.ref q], upd_same, DVs.append (DVs.mono Ew R4 _ _ q2) ⟨.ref q, [], rfl, DV.mono Ew R4 _ _ dt, rfl⟩⟩) rfl
    have E := E1.trans R1 (E2.trans R2 (E3.trans R3 (E4.trans R4 E5)))
    refine go _ _ _ R5 E ⟨?_, fun i d hi => ?_⟩ ?_
    · rw [List.length_set, List.length_set]
      exact Ve.1
    · have i2 : i ≠ 2 := by
        rintro rfl
        exact h2 d hi
      obtain ⟨z, z1, z2⟩ := (Ve.mono E R).2 i d hi
      exact ⟨z, by rw [List.getElem?_set_ne (Ne.symm i2), List.getElem?_set_ne (Ne.symm i2)]; exact z1, z2⟩
    · rw [List.length_set, List.length_set]
      exact len
theorem _root_.L2.PSs.wI {X : Cx} {st : List Stmt} {t t' : TS} (h : PSs X st t) (k : ∀ (pins : List (Addr × Obj)) (s : Shared) Z σ H, L2.Inv X pins σ H s → t' Z σ H → t Z σ H) : PSs X st t' := ⟨fun pins s σ H Z I q => h.run pins s σ H Z I (k pins s Z σ H I q)⟩
theorem ss_ex {C : Cal} {e e' : En} {S S' : Sto} {f : Fl} {c : CS} {r : CSs} (h : exSs C (.cons c r) e S = some (f, e', S')) : ∃ f1 e1 S1, exS C c e S = some (f1, e1, S1) ∧ (f1 = .nx → exSs C r e1 S1 = some (f, e', S')) := by
  simp only [exSs] at h
  cases hc : exS C c e S with
  | none => simp [hc] at h
  | some q =>
    obtain ⟨f1, e1, S1⟩ := q
    refine ⟨f1, e1, S1, rfl, ?_⟩
    rintro rfl
    simp only [hc] at h
    exact h
theorem st_ex {C : Cal} {e e' : En} {S S' : Sto} {f : Fl} (h : exS C (.set (.name 1) (.lstE .nil)) e S = some (f, e', S')) : f = .nx ∧ e' = e.set 1 (some (.ref S.length)) ∧ S' = S ++ [Ob.lst []] := by
  have l5 : evE C (.lstE .nil) e S = some (.ref S.length, S ++ [Ob.lst []]) := by
    simp only [evE, evEs, bnd]
    rfl
  simp only [exS, l5, bnS, putT] at h
  cases h
  exact ⟨rfl, rfl, rfl⟩
theorem takes_no {X : Cx} : L2N.Takes X (fun _ _ _ _ => False) := fun _ _ ⟨_, _, _, _, _, _, _, _, _, _, _, _, _, _, _, _, w⟩ => w.elim
theorem cm_try {mg4 : Addr} {fd4 : FuncData} (D4 : FunD K d4.x d4.qual (L2.defArgs s4) (L2.defBody s4) (L2.defScope s4) [] [] mg4 fd4) (hm4 : mg "_law_kinds" = some (.ref mg4)) (hB : mg "FerryError" = some (.ref (He.ga K "FerryError"))) (hx : exmB K = true) : CmOk (WW w K) gam prog mg base d8 := by
  refine ⟨c8, rfl, fun fd L X D cx em eb hfn ⟨hh, ee⟩ stk => ?_⟩
  obtain ⟨p0, p1, p2, p3, p4, p5, p6, p7, p8, p9, p10, p11, p12, p13, p14, p15, p16, p17, p18, p19, p20, p21, p22, p23, p24, p25, p26, p27, p28, p29, p30, p31, p32, p33, p34, p35, p36, p37, p38, p39, p40, p41, p42, p43, p44, p45, p46, p47, p48, p49, p50, p51, p52, p53, p54, p55, p56, p57, p58, p59, p60, k0, k1, k2, eb8, l1, l2, l3⟩ := bodyT
  show PSs X (L2.defBody s8) _
  rw [eb8]
  have hK : X.K = K := cx.hK
  have hN : X.N = n8 := cx.hN
  have nd : X.N.Nodup := by
    rw [hN]
    decide
  have fr : X.env.frame = some X.env.locals := by
    rw [ee]
    rfl
  have O0 := cx.xcs "NoDoor" 5 "door" "door" rfl (by decide)
  have O1 := cx.xcs "Absent" 11 "name" "name" rfl (by decide)
  have O2 := cx.xcs "InUse" 10 "run" "run" rfl (by decide)
  obtain ⟨ini0, I0⟩ := O0.ex
  obtain ⟨ini1, I1⟩ := O1.ex
  obtain ⟨ini2, I2⟩ := O2.ex
  have T0 : OexG X.K ini0 ((WW w K).xa 5) := let ⟨_, _, t, _⟩ := I0; t
  have T1 : OexG X.K ini1 ((WW w K).xa 11) := let ⟨_, _, t, _⟩ := I1; t
  have T2 : OexG X.K ini2 ((WW w K).xa 10) := let ⟨_, _, t, _⟩ := I2; t
  have hsc : X.env.scope = L2.defScope d8.st := cx.hsc
  have v0 : Vis X.env.scope "thing" := cx.vis rfl
  have v1 : Vis X.env.scope "found" := cx.vis rfl
  have v2 : Vis X.env.scope "e" := cx.vis rfl
  have lo : Loc X.env.scope "found" := by
    rw [hsc]
    exact loc_of rfl
  have kl : X.env.kindOf "e" = some .local := by
    show X.env.scope.names.lookup ("e" : Str) = _
    rw [hsc]
    rfl
  have ni : ∀ (i : Nat) (x : Str), n8[i]? = some x → X.N[i]? = some x := fun i x h => by
    rw [hN]
    exact h
  have hxi : ∀ y cs, gam.xis.lookup y = some cs → XiOk (WW w K) K X.mg y cs := fun y cs h => by
    have := cx.xis y cs h
    rwa [hK] at this
  have hm4' : X.mg "_law_kinds" = some (.ref mg4) := by
    rw [em]
    exact hm4
  have xat : ∀ f ∈ gam.att, ∀ c, c < xs.length → XfC X.K ((WW w K).xa c) ∧ PySem.W.findIn X.K (.ref ((WW w K).xa c)) f = some none := fun f hf c hc => cx.xat f hf c hc
  -- the suite, at any thing told
  have suite : ∀ {k : Nat} {q1 q2 q3 q4 q5 q6 q7 q8 q9 q10 : Pos} {kk : Nat} {th : Expr} {tt : Addr → Value → Option Addr → TE}, (k = 5 ∨ k = 10 ∨ k = 11) → (q2.endLine == q9.line) = true → notStar th = true →
      (∀ (a : Addr) (oe : Obj) (cls : Value) (d : Option Addr) (pn : List (Addr × Obj)), L2N.Zn cls d oe → (∃ vs, oe.data = .fields vs) → PE (X.suite a ((a, oe) :: pn)) th (tt a cls d)) →
      ∀ (a : Addr) (oe : Obj) (cls : Value) (d : Option Addr) (pn : List (Addr × Obj)), L2N.Zn cls d oe → (∃ vs, oe.data = .fields vs) →
        PSs (X.suite a ((a, oe) :: pn)) [.Expr (.Call (.Attribute (.Name "found" q1) "append" q2) [(.Tuple [(.Call (.Name "_law_kinds" q3) [(.Name "e" q4)] [] q5), (.Call (.Name "repr" q6) [th] [] q7)] kk q8)] [] q9) q10] (tApp (WW w K) K ((WW w K).xa k) k tt a cls d) := fun {k q1 q2 q3 q4 q5 q6 q7 q8 q9 q10 kk th tt} hk hl hs ht a oe cls d pn hz hf => by
    have pk := pe_kinds (X := X) (a := a) (pn := pn) (q := q3) (p2 := q4) (pos := q5) hK hxi (cx.free "isinstance" (by decide) rfl) (cx.free "enumerate" (by decide) rfl) hk D4 hm4' cx.hr2 (cx.gl rfl) (ni 2 "e" rfl) v2 hz hf
    have pr := pe_callB (X := X.suite a ((a, oe) :: pn)) (p := q6) (pos := q7) (repr_ok (X := X.suite a ((a, oe) :: pn)) cx.hgd cx.hK cx.hu) (cx.gl (x := "repr") rfl) (cx.free "repr" (by decide) rfl) rfl (pa_cons (ht a oe cls d pn hz hf) pa_nil (star_cons hs)) (by decide) rfl (star_cons hs) rfl
    have q := pss_one (ps_expr (X := X.suite a ((a, oe) :: pn)) (pos := q10) (pe_bm (X := X.suite a ((a, oe) :: pn)) (apos := q2) (cpos := q9) PySem.F.plainAttrs_list PySem.F.slot_list_append PySem.F.type_list_append mt_append (pe_var (X := X.suite a ((a, oe) :: pn)) (pos := q1) (ni 1 "found" rfl) v1 rfl rfl) (pa_cons (pe_tup (x1 := kk) (pos := q8) (pa_cons pk (pa_cons pr pa_nil))) pa_nil) rfl rfl hl rfl rfl) rfl)
    subst hK
    exact q
  have th0 : ∀ {q : Pos} (a : Addr) (oe : Obj) (cls : Value) (d : Option Addr) (pn : List (Addr × Obj)), L2N.Zn cls d oe → (∃ vs, oe.data = .fields vs) → PE (X.suite a ((a, oe) :: pn)) (.Name "thing" q) (tVar 0) := fun {q} a oe cls d pn _ _ => pe_var (X := X.suite a ((a, oe) :: pn)) (ni 0 "thing" rfl) v0 rfl rfl
  have th1 : ∀ {q q2 : Pos} {f : Str} {c : Nat} (_ : f ∈ gam.att) (_ : c < xs.length) (a : Addr) (oe : Obj) (cls : Value) (d : Option Addr) (pn : List (Addr × Obj)), L2N.Zn cls d oe → (∃ vs, oe.data = .fields vs) → PE (X.suite a ((a, oe) :: pn)) (.Attribute (.Name "e" q) f q2) (tXf a cls d ((WW w K).xa c) f (tVar 2)) := fun {q q2 f c} h1 h2 a oe cls d pn hz hf =>
    pe_xf (xat f h1 c h2).1 (xat f h1 c h2).2 ⟨hz.1, hz.2.1⟩ hf (pe_var (X := X.suite a ((a, oe) :: pn)) (ni 2 "e" rfl) v2 rfl rfl)
  have P0 := L2N.ps_try_as (X := X) (tb := fun Wx => tRz X.K ini0 ((WW w K).xa 5) "door" (tVar 0) Wx) (pos := p20) (pos' := p19) (np := p7) stk fr nd (ni 2 "e" rfl) kl (x := "FerryError") (c := .ref (He.ga K "FerryError")) ⟨cx.gl rfl, rfl, .inl (by rw [em]; exact hB)⟩ takes_no (fun Wx pn xe tk _ => pss_one (ps_rs (X := X.tr pn xe) (p := p3) (p1 := p5) (p2 := p6) O0 I0 cx.calm cx.hr2 cx.hgd tk (cx.gl rfl) (pe_var (X := X.tr pn xe) (pos := p4) (ni 0 "thing" rfl) v0 rfl rfl) rfl rfl)) (suite (q1 := p8) (q2 := p9) (q3 := p10) (q4 := p11) (q5 := p12) (q6 := p13) (q7 := p15) (q8 := p16) (q9 := p17) (q10 := p18) (kk := k0) (.inl rfl) l1 rfl (th0 (q := p14)))
  have P1 := L2N.ps_try_as (X := X) (tb := fun Wx => tRz X.K ini1 ((WW w K).xa 11) "name" (tVar 0) Wx) (pos := p39) (pos' := p38) (np := p25) stk fr nd (ni 2 "e" rfl) kl (x := "Absent") (c := .ref ((WW w K).xa 11)) ⟨cx.gl rfl, rfl, .inl O1.gl⟩ takes_no (fun Wx pn xe tk _ => pss_one (ps_rs (X := X.tr pn xe) (p := p21) (p1 := p23) (p2 := p24) O1 I1 cx.calm cx.hr2 cx.hgd tk (cx.gl rfl) (pe_var (X := X.tr pn xe) (pos := p22) (ni 0 "thing" rfl) v0 rfl rfl) rfl rfl)) (suite (q1 := p26) (q2 := p27) (q3 := p28) (q4 := p29) (q5 := p30) (q6 := p31) (q7 := p34) (q8 := p35) (q9 := p36) (q10 := p37) (kk := k1) (.inr (.inr rfl)) l2 rfl (th1 (q := p32) (q2 := p33) (f := "name") (c := 11) (by decide) (by decide)))
  have P2 := L2N.ps_try_as (X := X) (tb := fun Wx => tRz X.K ini2 ((WW w K).xa 10) "run" (tVar 0) Wx) (pos := p58) (pos' := p57) (np := p44) stk fr nd (ni 2 "e" rfl) kl (x := "InUse") (c := .ref ((WW w K).xa 10)) ⟨cx.gl rfl, rfl, .inl O2.gl⟩ takes_no (fun Wx pn xe tk _ => pss_one (ps_rs (X := X.tr pn xe) (p := p40) (p1 := p42) (p2 := p43) O2 I2 cx.calm cx.hr2 cx.hgd tk (cx.gl rfl) (pe_var (X := X.tr pn xe) (pos := p41) (ni 0 "thing" rfl) v0 rfl rfl) rfl rfl)) (suite (q1 := p45) (q2 := p46) (q3 := p47) (q4 := p48) (q5 := p49) (q6 := p50) (q7 := p53) (q8 := p54) (q9 := p55) (q10 := p56) (kk := k2) (.inr (.inl rfl)) l3 rfl (th1 (q := p51) (q2 := p52) (f := "run") (c := 10) (by decide) (by decide)))
  have PA := ps_set (X := X) (pos := p2) (pos' := p0) nd (ni 1 "found" rfl) lo (pe_lst (pos := p1) pa_nil) rfl (.inl (hfn _))
  have PR := ps_ret (X := X) (pos := p60) (pe_var (pos := p59) (ni 1 "found" rfl) v1 rfl rfl)
  refine (pss_cons PA (pss_cons P0 (pss_cons P1 (pss_cons P2 (pss_one PR))))).wI fun pins s Z σ H I ⟨ι, S, en, fl, e', S', R, Ve, ev, g⟩ => ?_
  have len : σ.length = 3 := by
    rw [I.len, hN]
    rfl
  have no0 := O0.no
  have no1 := O1.no
  have no2 := O2.no
  rw [hK] at T0 T1 T2 no0 no1 no2 ⊢
  -- what PC says
  rw [c8_eq] at ev
  obtain ⟨_, _, _, x0, ev⟩ := ss_ex ev
  obtain ⟨rfl, rfl, rfl⟩ := st_ex x0
  have ev := ev rfl
  have hen : en.length = 3 := Ve.1.trans len
  have a1 : (en.set 1 (some (.ref S.length)))[1]? = some (some (.ref S.length)) := List.getElem?_set_self (by omega)
  obtain ⟨_, _, _, x1, ev⟩ := ss_ex ev
  have s1 : (S ++ [Ob.lst []])[S.length]? = some (.lst []) := by simp
  obtain ⟨x, r1, hx0, hl, hr1, hz1, rfl, rfl, rfl⟩ := ap_ex a1 (by simp) s1 x1
  have ev := ev rfl
  obtain ⟨_, _, _, x2, ev⟩ := ss_ex ev
  generalize hS2 : List.set _ S.length _ = S2 at x2 ev
  have hL2 : S2.length = S.length + 2 := by
    rw [← hS2]
    simp only [List.length_set, List.length_append, List.length_cons, List.length_nil]
  have s2 : S2[S.length]? = some (.lst ([] ++ [.tup [.ref (S ++ [Ob.lst []]).length, .str r1]])) := by
    rw [← hS2]
    exact List.getElem?_set_self (by simp)
  obtain ⟨x', r2, hx', _, hr2, hz2, rfl, rfl, rfl⟩ := ap_ex a1 (by omega) s2 x2
  cases hx0.symm.trans hx'
  have ev := ev rfl
  obtain ⟨_, _, _, x3, ev⟩ := ss_ex ev
  generalize hS3 : List.set _ S.length _ = S3 at x3 ev
  have hL3 : S3.length = S.length + 3 := by
    rw [← hS3]
    simp only [List.length_set, List.length_append, List.length_cons, List.length_nil, hL2]
  have s3 : S3[S.length]? = some (.lst (([] ++ [.tup [.ref (S ++ [Ob.lst []]).length, .str r1]]) ++ [.tup [.ref S2.length, .str r2]])) := by
    rw [← hS3]
    exact List.getElem?_set_self (by simp only [List.length_append, List.length_cons, List.length_nil, hL2]; omega)
  obtain ⟨x', r3, hx', _, hr3, hz3, rfl, rfl, rfl⟩ := ap_ex a1 (by omega) s3 x3
  cases hx0.symm.trans hx'
  have ev0 := ev rfl
  generalize hS4 : List.set _ S.length _ = S4 at ev0
  -- the relation, step by step
  have er : fl = .rt (.ref S.length) ∧ e' = en.set 1 (some (.ref S.length)) ∧ S' = S4 := by
    have h : exSs (calL prog L) (.cons (.ret (.var 1)) .nil) (en.set 1 (some (.ref S.length))) S4 = some (fl, e', S') := ev0
    simp only [exSs, exS, evE, a1, isLam, Bool.false_eq_true, if_false, bnS] at h
    cases h
    exact ⟨rfl, rfl, rfl⟩
  obtain ⟨rfl, rfl, rfl⟩ := er
  have hx1 : en[0]? = some (some x) := by
    rw [List.getElem?_set_ne (by decide)] at hx0
    exact hx0
  have V' : EnV (WW w K) ι H (en.set 2 none) σ := ⟨by rw [List.length_set]; exact Ve.1, fun i d hi => by
    by_cases h : i = 2
    · subst h
      rw [List.getElem?_set_self (by omega)] at hi
      cases hi
    · rw [List.getElem?_set_ne (Ne.symm h)] at hi
      exact Ve.2 i d hi⟩
  refine ⟨Nat.zero_le _, fun p hp => ?_⟩
  obtain ⟨R1, E1⟩ := R.alloc hp (u := .lst []) (o := .lst []) ⟨[], upd_same, rfl⟩
  have dp : DV (WW w K) (ι ++ [p]) (upd H p (.lst [])) (.ref S.length) (.ref p) := ⟨p, rfl, by rw [← R.len, List.getElem?_append_right (Nat.le_refl _)]; simp⟩
  have V1 := (V'.mono E1 R).set (i := 1) dp
  have b0 : ((en.set 2 none).set 1 (some (.ref S.length)))[0]? = some (some x) := by
    rw [List.getElem?_set_ne (by decide), List.getElem?_set_ne (by decide)]
    exact hx1
  have b1 : ((en.set 2 none).set 1 (some (.ref S.length)))[1]? = some (some (.ref S.length)) := List.getElem?_set_self (by rw [List.length_set]; omega)
  have b2 : ∀ d, ((en.set 2 none).set 1 (some (.ref S.length)))[2]? ≠ some (some d) := fun d => by
    rw [List.getElem?_set_ne (by decide), List.getElem?_set_self (by omega)]
    exact fun z => nomatch z
  refine ap_way (n := S.length) (k := 5) T0 no0 (exm_at hx (x := "NoDoor") (y := "FerryError") (by decide)) (by rw [List.length_set]; exact len) R1 V1 b2 b0 hl b1 (by simp) s1 hz1 hr1 (fun a dx v σ' H' Q z0 _ _ q => ⟨v, z0, q⟩) fun ι2 H2 σ2 R2 E2 V2 len2 => ?_
  have R2 : Rep (WW w K) ι2 S2 H2 := by
    rw [← hS2]
    exact R2
  have E2 : Ext (ι ++ [p]) (S ++ [Ob.lst []]) (upd H p (.lst [])) ι2 S2 H2 := by
    rw [← hS2]
    exact E2
  refine ap_way (n := S.length) (k := 11) T1 no1 (exm_at hx (x := "Absent") (y := "Absent") (by decide)) len2 R2 V2 b2 b0 hl b1 (by omega) s2 hz2 hr2 (fun a dx v σ' H' Q _ z2 zd q => ⟨_, z2, rfl, rfl, dx, _, v, rfl, zd, by simp [List.lookup], q⟩) fun ι3 H3 σ3 R3 E3 V3 len3 => ?_
  have R3 : Rep (WW w K) ι3 S3 H3 := by
    rw [← hS3]
    exact R3
  have E3 : Ext ι2 S2 H2 ι3 S3 H3 := by
    rw [← hS3]
    exact E3
  refine ap_way (n := S.length) (k := 10) T2 no2 (exm_at hx (x := "InUse") (y := "InUse") (by decide)) len3 R3 V3 b2 b0 hl b1 (by omega) s3 hz3 hr3 (fun a dx v σ' H' Q _ z2 zd q => ⟨_, z2, rfl, rfl, dx, _, v, rfl, zd, by simp [List.lookup], q⟩) fun ι4 H4 σ4 R4 E4 V4 len4 => ?_
  have R4 : Rep (WW w K) ι4 S' H4 := by
    rw [← hS4]
    exact R4
  have E4 : Ext ι3 S3 H3 ι4 S' H4 := by
    rw [← hS4]
    exact E4
  obtain ⟨u, u1, u2⟩ := V4.2 1 _ b1
  refine ⟨u, u1, ?_⟩
  have E := E1.trans R1 (E2.trans R2 (E3.trans R3 E4))
  exact g ι4 H4 (σ.set 1 (some u)) E R4 ((Ve.mono E R).set (u2.dv rfl)) u (u2.dv rfl)
end
end K05
end
section
set_option Elab.async false
set_option linter.all false
set_option maxRecDepth 100000
set_option maxHeartbeats 0
namespace K05
open PySem PC L2
/-- what the law's text comes to, for every script -/
def Pure : Prop := ∀ xs : List Int, xs.length ≤ 63 → ∃ S', runF prog 40 9 [.frl (xs.map .int)] [] = some (.bl true, S')
theorem dvs_ints {W : Wd} {ι : List Addr} {H : Hp} : ∀ xs : List Int, DVs W ι H (xs.map .int) (xs.map V.int)
  | [] => rfl
  | x :: xs => ⟨_, _, rfl, rfl, dvs_ints xs⟩
theorem ks_ok (w : World) (K : PySem.W.Frag) : KsOk (WW w K) gam prog ds ks where
  tab := rfl
  nc := rfl
  ca := fun c k h => by
    show (match ks[c]? with | some k => He.ga K k.x | none => 0) = _
    rw [h]
    rfl
  cls := fun x c h => nomatch h
  ini := fun k hk => nomatch hk
  mth := fun k hk q hq => nomatch hk
  nk := fun d hd ho => by
    have : (ds.all fun d => d.ow.isNone || !d.F.kwo) = true := by kernel_rfl
    have := List.all_eq_true.mp this d hd
    cases e : d.ow with
    | none => exact absurd e ho
    | some z =>
      rw [e] at this
      simpa using this
theorem xs_ok (w : World) (K : PySem.W.Frag) : XsOk (WW w K) gam "FerryError" dx xs where
  xcs := fun x c f y h => by
    have hm := PC.mem_of_lookup h
    have e : gam.xcs = [(("NoText" : Str), (0 : Nat), ("" : Str), ("" : Str)), (("NoBook" : Str), (1 : Nat), ("" : Str), ("" : Str)), (("NoPaper" : Str), (2 : Nat), ("" : Str), ("" : Str)), (("NoStand" : Str), (3 : Nat), ("" : Str), ("" : Str)), (("NoRow" : Str), (4 : Nat), ("" : Str), ("" : Str)), (("NoDoor" : Str), (5 : Nat), ("door" : Str), ("door" : Str)), (("NoTurn" : Str), (6 : Nat), ("place" : Str), ("place" : Str)), (("NoName" : Str), (7 : Nat), ("name" : Str), ("name" : Str)), (("Taken" : Str), (8 : Nat), ("name" : Str), ("name" : Str)), (("NoCode" : Str), (9 : Nat), ("name" : Str), ("name" : Str)), (("InUse" : Str), (10 : Nat), ("run" : Str), ("run" : Str)), (("Absent" : Str), (11 : Nat), ("name" : Str), ("name" : Str)), (("FerryError" : Str), (12 : Nat), ("" : Str), ("" : Str))] := rfl
    rw [e] at hm
    simp only [List.mem_cons, Prod.mk.injEq, List.not_mem_nil, or_false] at hm
    rcases hm with ⟨rfl, rfl, rfl, rfl⟩ | ⟨rfl, rfl, rfl, rfl⟩ | ⟨rfl, rfl, rfl, rfl⟩ | ⟨rfl, rfl, rfl, rfl⟩ | ⟨rfl, rfl, rfl, rfl⟩ | ⟨rfl, rfl, rfl, rfl⟩ | ⟨rfl, rfl, rfl, rfl⟩ | ⟨rfl, rfl, rfl, rfl⟩ | ⟨rfl, rfl, rfl, rfl⟩ | ⟨rfl, rfl, rfl, rfl⟩ | ⟨rfl, rfl, rfl, rfl⟩ | ⟨rfl, rfl, rfl, rfl⟩ | ⟨rfl, rfl, rfl, rfl⟩ <;> exact ⟨_, rfl⟩
  nx := rfl
  xa := fun c k h => by
    show (match xs[c]? with | some k => He.ga K k.x | none => 0) = _
    rw [h]
    rfl
  ini := fun k hk hf => by
    simp only [xs, List.mem_cons, List.not_mem_nil, or_false] at hk
    rcases hk with rfl | rfl | rfl | rfl | rfl | rfl | rfl | rfl | rfl | rfl | rfl | rfl | rfl
    · exact absurd rfl hf
    · exact absurd rfl hf
    · exact absurd rfl hf
    · exact absurd rfl hf
    · exact absurd rfl hf
    · exact ⟨d10, by simp [dx], rfl, rfl, rfl, rfl, rfl, rfl, by decide, rfl, by kernel_rfl⟩
    · exact ⟨d11, by simp [dx], rfl, rfl, rfl, rfl, rfl, rfl, by decide, rfl, by kernel_rfl⟩
    · exact ⟨d12, by simp [dx], rfl, rfl, rfl, rfl, rfl, rfl, by decide, rfl, by kernel_rfl⟩
    · exact ⟨d13, by simp [dx], rfl, rfl, rfl, rfl, rfl, rfl, by decide, rfl, by kernel_rfl⟩
    · exact ⟨d14, by simp [dx], rfl, rfl, rfl, rfl, rfl, rfl, by decide, rfl, by kernel_rfl⟩
    · exact ⟨d15, by simp [dx], rfl, rfl, rfl, rfl, rfl, rfl, by decide, rfl, by kernel_rfl⟩
    · exact ⟨d16, by simp [dx], rfl, rfl, rfl, rfl, rfl, rfl, by decide, rfl, by kernel_rfl⟩
    · exact absurd rfl hf
theorem law_g (pure_ok : Pure) {w : World} {mg : Str → Option Value} {fa : Addr} {h : Heap} (G : h.Ns mainGlobals mg) (hfa : mg ("law" : Str) = some (.ref fa)) (Y : ∃ K : PySem.W.Frag, K.In h ∧ He.SaysX (faA gam ks) ((ds ++ dx).map DS.dd) [] [] ex w h K) :
    LawG PySem.Challenge.rw_kinferry_k05_refusals_made w 42 63 "script" mg fa h := by
  obtain ⟨K, KX, c⟩ := Y
  obtain ⟨fd, D⟩ := c.t.d.defs (d := d9.dd) (List.mem_map.mpr ⟨d9, List.mem_append_left _ (List.mem_of_getElem? (i := 9) rfl), rfl⟩)
  have D' : FunD K "law" "law" (L2.defArgs d9.st) (L2.defBody d9.st) (L2.defScope d9.st) [] [] (He.ga K "law") fd := D
  have gl := He.glo_ok KX G (c.t.d.facts (f := .glo "law") (List.mem_append_left _ (List.mem_append_left _ (List.mem_map.mpr ⟨("law", d9.F), List.mem_of_getElem? (i := 9) rfl, rfl⟩))))
  have e := hfa.symm.trans gl
  cases e
  have mm := c.more
  unfold ex at mm
  simp only [Bool.and_eq_true] at mm
  obtain ⟨m1, m2, m3⟩ := mm
  have m2' : (He.Fa.glo "FerryError").ok K = true := by
    have q := m2
    unfold exX at q
    simp only [Bool.and_eq_true] at q
    exact q.2.1
  have bd := D'.bindsA (ps := ["script"]) fun kV doc pm an cdv ct us hl => df9.bd rfl kV doc pm an cdv ct us hl
  obtain ⟨fd4, D4⟩ := c.t.d.defs (d := d4.dd) (List.mem_map.mpr ⟨d4, List.mem_append_left _ (List.mem_of_getElem? (i := 4) rfl), rfl⟩)
  have D4' : FunD K d4.x d4.qual (L2.defArgs s4) (L2.defBody s4) (L2.defScope s4) [] [] (He.ga K "_law_kinds") fd4 := D4
  have f4 : (He.Fa.glo "_law_kinds").ok K = true := c.t.d.facts (f := .glo "_law_kinds") (List.mem_append_left _ (List.mem_append_left _ (List.mem_map.mpr ⟨("_law_kinds", d4.F), List.mem_of_getElem? (i := 4) rfl, rfl⟩)))
  refine ⟨K, fd, [], spF (WW w K) (calL prog 40) 9, KX, (fun p hp => nomatch hp), (fun p hp => nomatch hp), (fun p hp => nomatch hp), fun s u => bd s [u] rfl, fun a vs ns hl _ hs => ?_, fun base hK hG hT => ?_⟩
  · obtain ⟨S', hr⟩ := pure_ok ns hl
    exact ⟨[], [], [.frl (ns.map .int)], .bl true, S', ⟨rfl, List.nodup_nil, fun n a o q => by simp at q, fun p hp => nomatch hp⟩, ⟨_, [], rfl, .inl ⟨a, _, rfl, hs, dvs_ints ns⟩, rfl⟩, hr, fun ι' H' v _ _ hv => hv⟩
  · have G0 : Glo (WW w K) gam prog mg base := glo_of (h := base) hK hG c.t.d m1 rfl rfl df_all (cm_all (cm_try D4' (He.glo_ok hK hG f4) (He.glo_ok hK hG m2') m3)) (lms_ok w K) (ks_ok w K) (xs_ok w K) m2 dfx_all
    have V := lvl_all (prog := (PySem.Challenge.rw_kinferry_k05_refusals_made).prog) (w := w) G0 rfl 40
    obtain ⟨dl⟩ := G0.fns "law" d9.F rfl
    have e1 := gl.symm.trans dl.hm
    have e2 : He.ga K "law" = dl.f := by
      injection e1 with z
      injection z
    obtain ⟨_, _, _, _, _, _, _, _, _, _, _, lk, _⟩ := D'.ex
    obtain ⟨_, _, _, _, _, _, _, _, _, _, _, lk2, _⟩ := dl.D.ex
    have lk2' : K.lookup dl.f = _ := lk2
    rw [← e2, lk] at lk2'
    have e3 : fd = dl.fd := by
      injection lk2' with z
      injection z with z1 z2 z3
      injection z3
    rw [e3, e2]
    exact V.fn d9.F dl.toDefB
end K05
open PySem PySem.W PySem.Calls PyProof.Rows
theorem k05_of (pure_ok : K05.Pure) : PySem.Challenge.rw_kinferry_k05_refusals_made.Holds := by
  w_on; o_law
  refine HandSHeadRun.head_any (r := OpenLaw.row PySem.Challenge.rw_kinferry_k05_refusals_made) (q := view (OpenLaw.row PySem.Challenge.rw_kinferry_k05_refusals_made).prog [24]) (H := K05.hk) (ob := K05.ob) (M := 20000) (loose := K05.loose) (d := HandSHeadRun.topDef (OpenLaw.row PySem.Challenge.rw_kinferry_k05_refusals_made).prog 24) (kwd := []) K05.ob_eq
    (by kernel_rfl) (fun s => by kernel_rfl) K05.runEq (by kernel_rfl) (by kernel_rfl) (by kernel_rfl) (by rfl) (by first | assumption | decide +kernel) (by decide +kernel) ⟨rfl, rfl, rfl, rfl, rfl, by decide +kernel⟩ ?hw ?hc
  case hw => w_witness2
  case hc =>
    refine PC.walk_ofG (l := PySem.Challenge.rw_kinferry_k05_refusals_made) (n := 63) (k := 42) (x := "script") rfl (by decide) (by kernel_rfl) ⟨rfl, by decide, by decide⟩ ?F
    intro w mg fa h Y G hmg0
    have hmg : mg ("law" : PySem.Str) = some (.ref fa) := by
      have e : (HandSHeadRun.topDef (OpenLaw.row PySem.Challenge.rw_kinferry_k05_refusals_made).prog 24).name = ("law" : PySem.Str) := by kernel_rfl
      rw [← e]
      exact hmg0
    exact K05.law_g pure_ok G hmg Y
end
section
set_option Elab.async false
set_option linter.all false
set_option maxRecDepth 100000
set_option maxHeartbeats 1000000
/-! What PC's words need, by what is wanted behind them. -/
namespace PC
open PySem
def WR {α : Type} (m : Option (α × Sto)) (Q : α → Sto → Prop) : Prop := ∃ a S', m = some (a, S') ∧ Q a S'
def WV {α : Type} (m : Option α) (Q : α → Prop) : Prop := ∃ a, m = some a ∧ Q a
def WE (C : Cal) (x : CE) (e : En) (S : Sto) (Q : D → Sto → Prop) : Prop := WR (evE C x e S) Q
def WEs (C : Cal) (x : CEs) (e : En) (S : Sto) (Q : List D → Sto → Prop) : Prop := WR (evEs C x e S) Q
def WO (C : Cal) (x : CO) (e : En) (S : Sto) (Q : Option Int → Sto → Prop) : Prop := WR (evO C x e S) Q
def WT (C : Cal) (x : CE) (e : En) (S : Sto) (Q : Bool → Sto → Prop) : Prop := WR (tstE C x e S) Q
def WF (C : Cal) (f : Nat) (as : List D) (S : Sto) (Q : D → Sto → Prop) : Prop := WR (C.fn f as S) Q
def W1 (C : Cal) (s : CS) (e : En) (S : Sto) (Q : Fl → En → Sto → Prop) : Prop := ∃ fl e' S', exS C s e S = some (fl, e', S') ∧ Q fl e' S'
def WB (C : Cal) (s : CSs) (e : En) (S : Sto) (Q : Fl → En → Sto → Prop) : Prop := ∃ fl e' S', exSs C s e S = some (fl, e', S') ∧ Q fl e' S'
/-- behind a statement: the rest, or out -/
def WK (C : Cal) (r : CSs) (Q : Fl → En → Sto → Prop) (fl : Fl) (e : En) (S : Sto) : Prop := match fl with
  | .nx => WB C r e S Q
  | fl => Q fl e S
def endQ (Q : D → Sto → Prop) (fl : Fl) (S : Sto) : Prop := match fl with
  | .nx => Q .non S
  | .rt d => Q d S
  | _ => False
def getV (e : En) (i : Nat) : Option D := match e[i]? with
  | some (some d) => if isLam d then none else some d
  | _ => none
section
variable {α β : Type} {C : Cal} {e e' : En} {S S' : Sto} {Q : D → Sto → Prop} {Qs : List D → Sto → Prop} {QB : Fl → En → Sto → Prop}
theorem WR.mono {m : Option (α × Sto)} {Q Q' : α → Sto → Prop} (h : WR m Q) (k : ∀ a S, Q a S → Q' a S) : WR m Q' := let ⟨a, S, e, q⟩ := h; ⟨a, S, e, k a S q⟩
theorem wr_congr {m : Option (α × Sto)} {Q Q' : α → Sto → Prop} (h : ∀ a S, Q a S ↔ Q' a S) : WR m Q ↔ WR m Q' := ⟨fun ⟨a, S, e, q⟩ => ⟨a, S, e, (h a S).mp q⟩, fun ⟨a, S, e, q⟩ => ⟨a, S, e, (h a S).mpr q⟩⟩
theorem wr_some {a : α} {Q : α → Sto → Prop} : WR (some (a, S)) Q ↔ Q a S := ⟨fun ⟨_, _, e, q⟩ => by cases e; exact q, fun q => ⟨a, S, rfl, q⟩⟩
theorem wr_none {Q : α → Sto → Prop} : WR none Q ↔ False := ⟨fun ⟨_, _, e, _⟩ => (nomatch e), False.elim⟩
theorem wv_some {a : α} {Q : α → Prop} : WV (some a) Q ↔ Q a := ⟨fun ⟨_, e, q⟩ => by cases e; exact q, fun q => ⟨a, rfl, q⟩⟩
theorem wv_none {Q : α → Prop} : WV none Q ↔ False := ⟨fun ⟨_, e, _⟩ => (nomatch e), False.elim⟩
theorem wr_bnd {m : Option (α × Sto)} {k : α → Sto → Re β} {Q : β → Sto → Prop} : WR (bnd m k) Q ↔ WR m fun a S => WR (k a S) Q := by
  cases m with
  | none => exact ⟨fun ⟨_, _, e, _⟩ => (nomatch e), fun ⟨_, _, e, _⟩ => (nomatch e)⟩
  | some p => obtain ⟨a, S⟩ := p; simp only [bnd, wr_some]
theorem wr_giv {m : Option D} : WR (giv m S) Q ↔ WV m fun d => Q d S := by
  cases m with
  | none => exact ⟨fun ⟨_, _, e, _⟩ => (nomatch e), fun ⟨_, e, _⟩ => (nomatch e)⟩
  | some d => simp only [giv, Option.map_some, wr_some, wv_some]
theorem wv_map {m : Option α} {f : α → β} {Q : β → Prop} : WV (m.map f) Q ↔ WV m fun a => Q (f a) := by
  cases m with
  | none => exact ⟨fun ⟨_, e, _⟩ => (nomatch e), fun ⟨_, e, _⟩ => (nomatch e)⟩
  | some d => simp only [Option.map_some, wv_some]
theorem wr_mapS {m : Option α} {f : α → β × Sto} {Q : β → Sto → Prop} : WR (m.map f) Q ↔ WV m fun a => Q (f a).1 (f a).2 := by
  cases m with
  | none => exact ⟨fun ⟨_, _, e, _⟩ => (nomatch e), fun ⟨_, e, _⟩ => (nomatch e)⟩
  | some d => simp only [Option.map_some, wv_some]; exact wr_some
/-! ### expressions -/
theorem we_non : WE C .non e S Q ↔ Q .non S := by unfold WE; rw [evE]; exact wr_some
theorem we_bl {b : Bool} : WE C (.bl b) e S Q ↔ Q (.bl b) S := by unfold WE; rw [evE]; exact wr_some
theorem we_int {i : Int} : WE C (.int i) e S Q ↔ Q (.int i) S := by unfold WE; rw [evE]; exact wr_some
theorem we_str {i : Str} : WE C (.str i) e S Q ↔ Q (.str i) S := by unfold WE; rw [evE]; exact wr_some
theorem we_fnv {i : Nat} : WE C (.fnv i) e S Q ↔ Q (.fn i) S := by unfold WE; rw [evE]; exact wr_some
theorem we_var {i : Nat} : WE C (.var i) e S Q ↔ WV (getV e i) fun d => Q d S := by
  unfold WE getV
  rw [evE]
  split
  · rename_i d h1
    try rw [h1]
    by_cases h2 : isLam d = true
    · simp only [h2, if_true, wr_none, wv_none]
    · simp only [h2, if_false, Bool.false_eq_true, wr_some, wv_some]
  · rename_i h1
    cases h2 : e[i]? with
    | none => simp only [wr_none, wv_none]
    | some o =>
      cases o with
      | none => simp only [wr_none, wv_none]
      | some d => exact absurd h2 (h1 d)
theorem we_glo {g : Nat} : WE C (.glo g) e S Q ↔ WV C.P.glos[g]? fun d => Q d S := by unfold WE; rw [evE]; exact wr_giv
theorem we_bin {op : Operator} {a b : CE} : WE C (.bin op a b) e S Q ↔ WE C a e S fun x S => WE C b e S fun y S => WR (binD op x y S) Q := by unfold WE; rw [evE]; simp only [wr_bnd]
theorem we_neg {a : CE} : WE C (.neg a) e S Q ↔ WE C a e S fun x S => WV (intD x) fun i => Q (.int (-i)) S := by
  unfold WE
  rw [evE]
  simp only [wr_bnd]
  constructor
  · rintro ⟨x, S1, h, q⟩
    refine ⟨x, S1, h, ?_⟩
    cases x <;> simp_all only [wr_some, wr_none, intD, wv_some]
  · rintro ⟨x, S1, h, q⟩
    refine ⟨x, S1, h, ?_⟩
    cases x <;> simp_all only [wr_some, wr_none, intD, wv_some, wv_none]
theorem we_not {a : CE} : WE C (.notE a) e S Q ↔ WE C a e S fun x S => WV (truD x S) fun b => Q (.bl (!b)) S := by unfold WE; rw [evE]; simp only [wr_bnd, wr_giv, wv_map]
theorem tst_wv {m : Option Bool} {f g : Option (α × Sto)} {Q : α → Sto → Prop} : WR (match m with | some true => f | some false => g | none => none) Q ↔ WV m fun b => if b = true then WR f Q else WR g Q := by
  cases m with
  | none => simp only [wr_none, wv_none]
  | some b => cases b <;> simp [wv_some]
theorem we_and {a b : CE} : WE C (.andE a b) e S Q ↔ WE C a e S fun x S => WV (truD x S) fun k => if k = true then WE C b e S Q else Q x S := by
  unfold WE
  rw [evE]
  simp only [wr_bnd]
  constructor
  · rintro ⟨x, S1, h, q⟩
    refine ⟨x, S1, h, ?_⟩
    cases ht : truD x S1 with
    | none => rw [ht] at q; exact (wr_none.mp q).elim
    | some k => rw [ht] at q; cases k <;> simpa [ht, wv_some, wr_some] using q
  · rintro ⟨x, S1, h, q⟩
    refine ⟨x, S1, h, ?_⟩
    cases ht : truD x S1 with
    | none => rw [ht] at q; exact (wv_none.mp q).elim
    | some k => rw [ht] at q; cases k <;> simpa [ht, wv_some, wr_some] using q
theorem we_or {a b : CE} : WE C (.orE a b) e S Q ↔ WE C a e S fun x S => WV (truD x S) fun k => if k = true then Q x S else WE C b e S Q := by
  unfold WE
  rw [evE]
  simp only [wr_bnd]
  constructor
  · rintro ⟨x, S1, h, q⟩
    refine ⟨x, S1, h, ?_⟩
    cases ht : truD x S1 with
    | none => rw [ht] at q; exact (wr_none.mp q).elim
    | some k => rw [ht] at q; cases k <;> simpa [ht, wv_some, wr_some] using q
  · rintro ⟨x, S1, h, q⟩
    refine ⟨x, S1, h, ?_⟩
    cases ht : truD x S1 with
    | none => rw [ht] at q; exact (wv_none.mp q).elim
    | some k => rw [ht] at q; cases k <;> simpa [ht, wv_some, wr_some] using q
theorem we_ifE {c a b : CE} : WE C (.ifE c a b) e S Q ↔ WE C c e S fun x S => WV (truD x S) fun k => if k = true then WE C a e S Q else WE C b e S Q := by
  unfold WE
  rw [evE]
  simp only [wr_bnd]
  constructor
  · rintro ⟨x, S1, h, q⟩
    refine ⟨x, S1, h, ?_⟩
    cases ht : truD x S1 with
    | none => rw [ht] at q; exact (wr_none.mp q).elim
    | some k => rw [ht] at q; cases k <;> simpa [ht, wv_some, wr_some] using q
  · rintro ⟨x, S1, h, q⟩
    refine ⟨x, S1, h, ?_⟩
    cases ht : truD x S1 with
    | none => rw [ht] at q; exact (wv_none.mp q).elim
    | some k => rw [ht] at q; cases k <;> simpa [ht, wv_some, wr_some] using q
theorem we_cmp {op : CmpOp} {a b : CE} : WE C (.cmp op a b) e S Q ↔ WE C a e S fun x S => WE C b e S fun y S => WV (cmpD op x y S) fun k => Q (.bl k) S := by unfold WE; rw [evE]; simp only [wr_bnd, wr_giv, wv_map]
theorem we_chain {op op2 : CmpOp} {a b c : CE} : WE C (.chain op op2 a b c) e S Q ↔ WE C a e S fun x S => WE C b e S fun y S => WV (cmpD op x y S) fun k => if k = true then WE C c e S fun z S => WV (cmpD op2 y z S) fun k => Q (.bl k) S else Q (.bl false) S := by
  unfold WE
  rw [evE]
  simp only [wr_bnd]
  constructor
  · rintro ⟨x, S1, h, y, S2, h2, q⟩
    refine ⟨x, S1, h, y, S2, h2, ?_⟩
    cases ht : cmpD op x y S2 with
    | none => rw [ht] at q; exact (wr_none.mp q).elim
    | some k => rw [ht] at q; cases k <;> simpa [ht, wv_some, wr_some, wr_bnd, wr_giv, wv_map] using q
  · rintro ⟨x, S1, h, y, S2, h2, q⟩
    refine ⟨x, S1, h, y, S2, h2, ?_⟩
    cases ht : cmpD op x y S2 with
    | none => rw [ht] at q; exact (wv_none.mp q).elim
    | some k => rw [ht] at q; cases k <;> simpa [ht, wv_some, wr_some, wr_bnd, wr_giv, wv_map] using q
theorem we_call {f : Nat} {as : CEs} : WE C (.call f as []) e S Q ↔ WEs C as e S fun xs S => WF C f xs S Q := by unfold WE WEs WF; rw [evE]; simp only [wr_bnd, callIx, if_true]
theorem we_callIx {f : Nat} {as : CEs} {ix : List Nat} : WE C (.call f as ix) e S Q ↔ WEs C as e S fun xs S => WV (callIx ix xs) fun ys => WF C f ys S Q := by
  unfold WE WEs WF
  rw [evE]
  simp only [wr_bnd]
  constructor
  · rintro ⟨x, S1, h, q⟩
    refine ⟨x, S1, h, ?_⟩
    cases ht : callIx ix x with
    | none => rw [ht] at q; exact (wr_none.mp q).elim
    | some k => rw [ht] at q; simpa [ht, wv_some] using q
  · rintro ⟨x, S1, h, q⟩
    refine ⟨x, S1, h, ?_⟩
    cases ht : callIx ix x with
    | none => rw [ht] at q; exact (wv_none.mp q).elim
    | some k => rw [ht] at q; simpa [ht, wv_some] using q
theorem we_imth {o : CE} {m : Str} {as : CEs} : WE C (.imth o m as) e S Q ↔ WE C o e S fun x S => WV (mthOf C.P x m S) fun f => WEs C as e S fun xs S => WF C f (x :: xs) S Q := by
  unfold WE WEs WF
  rw [evE]
  simp only [wr_bnd]
  constructor
  · rintro ⟨x, S1, h, q⟩
    refine ⟨x, S1, h, ?_⟩
    cases ht : mthOf C.P x m S1 with
    | none => rw [ht] at q; exact (wr_none.mp q).elim
    | some k => rw [ht] at q; simpa [ht, wv_some, wr_bnd] using q
  · rintro ⟨x, S1, h, q⟩
    refine ⟨x, S1, h, ?_⟩
    cases ht : mthOf C.P x m S1 with
    | none => rw [ht] at q; exact (wv_none.mp q).elim
    | some k => rw [ht] at q; simpa [ht, wv_some, wr_bnd] using q
theorem we_make {c f : Nat} {ms : List (Str × Nat)} {as : CEs} (h : C.P.cls[c]? = some ⟨some f, ms⟩) : WE C (.make c as) e S Q ↔ WEs C as e S fun xs S => WR (C.ini f (.ref S.length :: xs) (S ++ [.ins c []])) fun d S1 => d = .non ∧ Q (.ref S.length) S1 := by
  unfold WE WEs
  rw [evE]
  simp only [wr_bnd, h]
  constructor
  · rintro ⟨x, S1, h, d, S2, h2, q⟩
    refine ⟨x, S1, h, d, S2, h2, ?_⟩
    cases d <;> simp_all [wr_some, wr_none]
  · rintro ⟨x, S1, h, d, S2, h2, rfl, q⟩
    exact ⟨x, S1, h, .non, S2, h2, wr_some.mpr q⟩
theorem wr_if0 {p : Prop} [Decidable p] {m : Option (α × Sto)} {Q : α → Sto → Prop} : WR (if p then m else none) Q ↔ p ∧ WR m Q := by
  by_cases h : p
  · rw [if_pos h]; exact ⟨fun q => ⟨h, q⟩, fun q => q.2⟩
  · rw [if_neg h]; exact ⟨fun q => (wr_none.mp q).elim, fun q => (h q.1).elim⟩
theorem we_meth {o : CE} {m : Str} {as : CEs} : WE C (.meth o m as) e S Q ↔ WE C o e S fun x S => metK x S = true ∧ WEs C as e S fun xs S => WR (metD x m xs S) Q := by
  unfold WE WEs
  rw [evE]
  simp only [wr_bnd, wr_if0]
theorem we_bi {b : Bi} {as : CEs} : WE C (.bi b as) e S Q ↔ WEs C as e S fun xs S => WR (biD b xs S) Q := by unfold WE WEs; rw [evE]; simp only [wr_bnd]
theorem we_mkx {c : Nat} {f : Str} {a : CE} : WE C (.mkx c f a) e S Q ↔ WE C a e S fun d S => Q (.exc c f d) S := by unfold WE; rw [evE]; simp only [wr_bnd, wr_some]
def isxQ (cs : List Nat) (Q : D → Sto → Prop) (d : D) (S : Sto) : Prop := match d with
  | .exc c _ _ => Q (.bl (decide (c ∈ cs))) S
  | .exn c => Q (.bl (decide (c ∈ cs))) S
  | _ => False
theorem isx_exn {cs : List Nat} {c : Nat} : isxQ cs Q (.exn c) S ↔ Q (.bl (decide (c ∈ cs))) S := Iff.rfl
theorem we_mkn {c : Nat} {a : CE} : WE C (.mkn c a) e S Q ↔ WE C a e S fun d S => Q (.exn c) S := by unfold WE; rw [evE]; simp only [wr_bnd, wr_some]
theorem isx_exc {cs : List Nat} {c : Nat} {f : Str} {x : D} : isxQ cs Q (.exc c f x) S ↔ Q (.bl (decide (c ∈ cs))) S := Iff.rfl
theorem we_isx {a : CE} {cs : List Nat} : WE C (.isx a cs) e S Q ↔ WE C a e S (isxQ cs Q) := by
  unfold WE
  rw [evE]
  simp only [wr_bnd]
  refine wr_congr fun d S => ?_
  cases d <;> first
    | exact wr_some
    | exact wr_none
theorem we_isi {a : CE} {ts : List Ty} : WE C (.isi a ts) e S Q ↔ WE C a e S fun x S => WV (isiD x S ts) fun b => Q (.bl b) S := by unfold WE; rw [evE]; simp only [wr_bnd, wr_giv, wv_map]
theorem we_attr {o : CE} {f : Str} : WE C (.attr o f) e S Q ↔ WE C o e S fun x S => WV (atrD x f S) fun d => Q d S := by unfold WE; rw [evE]; simp only [wr_bnd, wr_giv]
theorem we_idx {a i : CE} : WE C (.idx a i) e S Q ↔ WE C a e S fun x S => WE C i e S fun y S => WV (idxD x y S) fun d => Q d S := by unfold WE; rw [evE]; simp only [wr_bnd, wr_giv]
theorem we_slc {a : CE} {lo hi : CO} : WE C (.slc a lo hi) e S Q ↔ WE C a e S fun x S => WO C lo e S fun l S => WO C hi e S fun h S => WR (slcD x l h S) Q := by unfold WE WO; rw [evE]; simp only [wr_bnd]
theorem wo_no {QO : Option Int → Sto → Prop} : WO C .no e S QO ↔ QO none S := by unfold WO; rw [evO]; exact wr_some
theorem wo_so {a : CE} {QO : Option Int → Sto → Prop} : WO C (.so a) e S QO ↔ WE C a e S fun x S => WV (intD x) fun i => QO (some i) S := by
  unfold WO WE
  rw [evO]
  simp only [wr_bnd]
  constructor
  · rintro ⟨x, S1, h, q⟩
    refine ⟨x, S1, h, ?_⟩
    cases x <;> simp_all only [wr_some, wr_none, intD, wv_some]
  · rintro ⟨x, S1, h, q⟩
    refine ⟨x, S1, h, ?_⟩
    cases x <;> simp_all only [wr_some, wr_none, intD, wv_some, wv_none]
theorem wr_if {p : Prop} [Decidable p] {m : Option (α × Sto)} {Q : α → Sto → Prop} : WR (if p then m else none) Q ↔ p ∧ WR m Q := by
  by_cases h : p
  · rw [if_pos h]; exact ⟨fun q => ⟨h, q⟩, fun q => q.2⟩
  · rw [if_neg h]; exact ⟨fun q => (wr_none.mp q).elim, fun q => (h q.1).elim⟩
theorem wv_if {p : Prop} [Decidable p] {m : Option α} {Q : α → Prop} : WV (if p then m else none) Q ↔ p ∧ WV m Q := by
  by_cases h : p
  · rw [if_pos h]; exact ⟨fun q => ⟨h, q⟩, fun q => q.2⟩
  · rw [if_neg h]; exact ⟨fun q => (wv_none.mp q).elim, fun q => (h q.1).elim⟩
theorem wr_new {o : Ob} : WR (new o S) Q ↔ Q (.ref S.length) (S ++ [o]) := wr_some
theorem we_tup {es : CEs} : WE C (.tupE es) e S Q ↔ WEs C es e S fun xs S => xs.length ≤ line ∧ Q (.tup xs) S := by unfold WE WEs; rw [evE]; simp only [wr_bnd, wr_if, wr_some]
theorem we_lst {es : CEs} : WE C (.lstE es) e S Q ↔ WEs C es e S fun xs S => xs.length ≤ line ∧ Q (.ref S.length) (S ++ [.lst xs]) := by unfold WE WEs; rw [evE]; simp only [wr_bnd, wr_if, wr_new]
theorem wes_nil : WEs C .nil e S Qs ↔ Qs [] S := by unfold WEs; rw [evEs]; exact wr_some
theorem wes_cons {a : CE} {r : CEs} : WEs C (.cons a r) e S Qs ↔ WE C a e S fun x S => WEs C r e S fun xs S => Qs (x :: xs) S := by unfold WEs WE; rw [evEs]; simp only [wr_bnd, wr_some]
theorem we_dget {o k f : CE} : WE C (.dget o k f) e S Q ↔ WE C o e S fun x S => isDk x S = true ∧ WE C k e S fun y S => WE C f e S fun z S => WV (getD2 x y z S) fun d => Q d S := by unfold WE; rw [evE]; simp only [wr_bnd, wr_if, wr_giv]
theorem we_dsetd {o k f : CE} : WE C (.dsetd o k f) e S Q ↔ WE C o e S fun x S => isDk x S = true ∧ WE C k e S fun y S => WE C f e S fun z S => WR (setdD x y z S) Q := by unfold WE; rw [evE]; simp only [wr_bnd, wr_if]
theorem we_dupd {o a : CE} : WE C (.dupd o a) e S Q ↔ WE C o e S fun x S => isDk x S = true ∧ WE C a e S fun y S => WR (updD x y S) Q := by unfold WE; rw [evE]; simp only [wr_bnd, wr_if]
theorem we_ditm {o : CE} : WE C (.ditm o) e S Q ↔ WE C o e S fun x S => WR (itmD x S) Q := by unfold WE; rw [evE]; simp only [wr_bnd]
theorem we_srtSet {o : CE} : WE C (.srtSet o) e S Q ↔ WE C o e S fun x S => WR (srtSetD x S) Q := by unfold WE; rw [evE]; simp only [wr_bnd]
theorem we_srtItm {o : CE} : WE C (.srtItm o) e S Q ↔ WE C o e S fun x S => WR (srtItmD x S) Q := by unfold WE; rw [evE]; simp only [wr_bnd]
theorem we_lzip {b : Bool} {x y : CE} : WE C (.lzip b x y) e S Q ↔ WE C x e S fun u S => WE C y e S fun v S => WV (seqD u S) fun xs => WV (seqD v S) fun ys => xs.length = ys.length ∧ Q (.ref S.length) (S ++ [.lst (List.zipWith (fun x y => .tup [x, y]) xs ys)]) := by
  unfold WE
  rw [evE]
  simp only [wr_bnd]
  have : ∀ u v S, WR (match seqD u S, seqD v S with
    | some xs, some ys => if xs.length = ys.length then new (.lst (List.zipWith (fun x y => .tup [x, y]) xs ys)) S else none
    | _, _ => none) Q ↔ WV (seqD u S) fun xs => WV (seqD v S) fun ys => xs.length = ys.length ∧ Q (.ref S.length) (S ++ [.lst (List.zipWith (fun x y => .tup [x, y]) xs ys)]) := fun u v S => by
    cases seqD u S with
    | none => simp only [wr_none, wv_none]
    | some xs =>
      cases seqD v S with
      | none => simp only [wr_none, wv_none, wv_some]
      | some ys => simp only [wr_if, wr_new, wv_some]
  exact wr_congr fun u S => wr_congr fun v S => this u v S
theorem we_dic {ks vs : CEs} : WE C (.dicE ks vs) e S Q ↔ WEs C ks e S fun xs S => WEs C vs e S fun ys S => WV (optMap keyOf xs) fun kk => (xs.length = ys.length ∧ xs.length ≤ 15) ∧ Q (.ref S.length) (S ++ [.dk ((kk.zip ys).foldl (fun m kv => putK kv.1 kv.2 m) [])]) := by
  unfold WE WEs
  rw [evE]
  simp only [wr_bnd]
  have : ∀ (xs ys : List D) S, WR (match optMap keyOf xs with
    | some kk => if xs.length = ys.length ∧ xs.length ≤ 15 then new (.dk ((kk.zip ys).foldl (fun m kv => putK kv.1 kv.2 m) [])) S else none
    | none => none) Q ↔ WV (optMap keyOf xs) fun kk => (xs.length = ys.length ∧ xs.length ≤ 15) ∧ Q (.ref S.length) (S ++ [.dk ((kk.zip ys).foldl (fun m kv => putK kv.1 kv.2 m) [])]) := fun xs ys S => by
    cases optMap keyOf xs with
    | none => simp only [wr_none, wv_none]
    | some kk => simp only [wr_if, wr_new, wv_some]
  exact wr_congr fun u S => wr_congr fun v S => this u v S
/-- a comprehension over what is walked -/
theorem we_lc {elt : CE} {tg : Tg} {src : Src} {it ifs : CEs} {own : List Nat} : WE C (.lc elt tg src it ifs own) e S Q ↔ WEs C it e S fun as S => WR (lcRun src as S (lcTn (tstEs C ifs) (evE C elt) tg (wipe e own))) fun ys S => ys.length < line ∧ Q (.ref S.length) (S ++ [.lst ys]) := by
  unfold WE WEs
  rw [evE]
  simp only [wr_bnd]
  have : ∀ (m : Option (List D × Sto)), WR (match m with
    | some (ys, S2) => if ys.length < line then new (.lst ys) S2 else none
    | none => none) Q ↔ WR m fun ys S => ys.length < line ∧ Q (.ref S.length) (S ++ [.lst ys]) := fun m => by
    cases m with
    | none => simp only [wr_none]
    | some p => obtain ⟨ys, S2⟩ := p; simp only [wr_if, wr_new, wr_some]
  exact wr_congr fun u S => this _
theorem we_dc {k v : CE} {tg : Tg} {src : Src} {it ifs : CEs} {own : List Nat} : WE C (.dc k v tg src it ifs own) e S Q ↔ WEs C it e S fun as S => WR (lcRun src as S (lcTn (tstEs C ifs) (dcF (evE C k) (evE C v)) tg (wipe e own))) fun ys S => WV (optMap pairD ys) fun kvs => ys.length < line ∧ Q (.ref S.length) (S ++ [.dk (kvs.foldl (fun m kv => putK kv.1 kv.2 m) [])]) := by
  unfold WE WEs
  rw [evE]
  simp only [wr_bnd]
  have : ∀ (m : Option (List D × Sto)), WR (match m with
    | some (ys, S2) => (match optMap pairD ys with
      | some kvs => if ys.length < line then new (.dk (kvs.foldl (fun m kv => putK kv.1 kv.2 m) [])) S2 else none
      | none => none)
    | none => none) Q ↔ WR m fun ys S => WV (optMap pairD ys) fun kvs => ys.length < line ∧ Q (.ref S.length) (S ++ [.dk (kvs.foldl (fun m kv => putK kv.1 kv.2 m) [])]) := fun m => by
    cases m with
    | none => simp only [wr_none]
    | some p =>
      obtain ⟨ys, S2⟩ := p
      simp only [wr_some]
      cases optMap pairD ys with
      | none => simp only [wr_none, wv_none]
      | some kvs => simp only [wr_if, wr_new, wv_some]
  exact wr_congr fun u S => this _
theorem we_col {src : Src} {es : CEs} : WE C (.col src es) e S Q ↔ WEs C es e S fun as S => WV (itD src as S) fun p => p.1.length ≤ line ∧ Q (.ref S.length) (S ++ [.lst p.1]) := by
  unfold WE WEs
  rw [evE]
  simp only [wr_bnd]
  have : ∀ (m : Option (List D × List Nat)) S, WR (match (generalizing := false) m with
    | some (xs, _) => if xs.length ≤ line then new (.lst xs) S else none
    | none => none) Q ↔ WV m fun p => p.1.length ≤ line ∧ Q (.ref S.length) (S ++ [.lst p.1]) := fun m S => by
    cases m with
    | none => simp only [wr_none, wv_none]
    | some p => obtain ⟨ys, S2⟩ := p; simp only [wr_if, wr_new, wv_some]
  exact wr_congr fun u S => this _ _
theorem we_rev {a : CE} : WE C (.rev a) e S Q ↔ WE C a e S fun x S => WV (lstD x S) fun xs => Q (.ref S.length) (S ++ [.lst xs.reverse]) := by
  unfold WE
  rw [evE]
  simp only [wr_bnd]
  have : ∀ (m : Option (List D)) S, WR (match (generalizing := false) m with
    | some xs => new (.lst xs.reverse) S
    | none => none) Q ↔ WV m fun xs => Q (.ref S.length) (S ++ [.lst xs.reverse]) := fun m S => by
    cases m with
    | none => simp only [wr_none, wv_none]
    | some p => simp only [wr_new, wv_some]
  exact wr_congr fun u S => this _ _
theorem we_alt {a b : CE} (h : WE C a e S Q) : WE C (.alt a b) e S Q := by
  obtain ⟨d, S1, h, q⟩ := h
  refine ⟨d, S1, ?_, q⟩
  rw [evE, h]
theorem we_alt2 {a b : CE} (h0 : evE C a e S = none) (h : WE C b e S Q) : WE C (.alt a b) e S Q := by
  obtain ⟨d, S1, h, q⟩ := h
  refine ⟨d, S1, ?_, q⟩
  rw [evE, h0]
  exact h
theorem we_callV {f j l : Nat} {as : CEs} {cs : List D} (h : e[j]? = some (some (.lam l cs))) : WE C (.callV f as j) e S Q ↔ WEs C as e S fun xs S => WF C f (xs ++ [.lam l cs]) S Q := by
  unfold WE WEs WF
  rw [evE, h]
  simp only [wr_bnd]
theorem we_app {j l : Nat} {as : CEs} {cs : List D} (h : e[j]? = some (some (.lam l cs))) : WE C (.app j as) e S Q ↔ WEs C as e S fun xs S => WR (C.lam l xs cs S) Q := by
  unfold WE WEs
  rw [evE, h]
  simp only [wr_bnd]
theorem we_callL {f l : Nat} {as : CEs} {caps : List Nat} {cs : List D} (h : optMap (capD e) caps = some cs) : WE C (.callL f as l caps) e S Q ↔ WEs C as e S fun xs S => WF C f (xs ++ [.lam l cs]) S Q := by
  unfold WE WEs WF
  rw [evE]
  simp only [wr_bnd, h]
theorem wt_ {x : CE} {QT : Bool → Sto → Prop} : WT C x e S QT ↔ WE C x e S fun d S => WV (truD d S) fun b => QT b S := by
  unfold WT WE tstE
  cases evE C x e S with
  | none => simp only [wr_none]
  | some p => obtain ⟨d, S1⟩ := p; simp only [wr_mapS, wr_some]
/-! ### statements -/
def W1v {α : Type} (m : Re α) (k : α → Sto → Rs) (Q : Fl → En → Sto → Prop) : Prop := ∃ fl e' S', bnS m k = some (fl, e', S') ∧ Q fl e' S'
theorem bns_wr {m : Re α} {k : α → Sto → Rs} : (∃ fl e' S', bnS m k = some (fl, e', S') ∧ QB fl e' S') ↔ WR m fun a S => ∃ fl e' S', k a S = some (fl, e', S') ∧ QB fl e' S' := by
  cases m with
  | none => exact ⟨fun ⟨_, _, _, e, _⟩ => (nomatch e), fun ⟨_, _, e, _⟩ => (nomatch e)⟩
  | some p => obtain ⟨a, S⟩ := p; simp only [bnS, wr_some]
theorem rs_some {fl : Fl} : (∃ fl' e2 S2, some (fl, e', S') = some (fl', e2, S2) ∧ QB fl' e2 S2) ↔ QB fl e' S' := ⟨fun ⟨_, _, _, e, q⟩ => by cases e; exact q, fun q => ⟨_, _, _, rfl, q⟩⟩
theorem rs_none : (∃ fl' e2 S2, (none : Rs) = some (fl', e2, S2) ∧ QB fl' e2 S2) ↔ False := ⟨fun ⟨_, _, _, e, _⟩ => (nomatch e), False.elim⟩
theorem rs_map {m : Option α} {f : α → Fl × En × Sto} : (∃ fl' e2 S2, m.map f = some (fl', e2, S2) ∧ QB fl' e2 S2) ↔ WV m fun a => QB (f a).1 (f a).2.1 (f a).2.2 := by
  cases m with
  | none => exact ⟨fun ⟨_, _, _, e, _⟩ => (nomatch e), fun ⟨_, e, _⟩ => (nomatch e)⟩
  | some a => simp only [Option.map_some, wv_some]; exact rs_some
theorem rs_if {p : Prop} [Decidable p] {m : Rs} : (∃ fl' e2 S2, (if p then m else none) = some (fl', e2, S2) ∧ QB fl' e2 S2) ↔ p ∧ ∃ fl' e2 S2, m = some (fl', e2, S2) ∧ QB fl' e2 S2 := by
  by_cases h : p
  · rw [if_pos h]; exact ⟨fun q => ⟨h, q⟩, fun q => q.2⟩
  · rw [if_neg h]; exact ⟨fun q => (rs_none.mp q).elim, fun q => (h q.1).elim⟩
theorem w1_set {t : Tg} {x : CE} : W1 C (.set t x) e S QB ↔ WE C x e S fun d S => WV (putT t d e) fun e => QB .nx e S := by unfold W1 WE; simp only [exS, bns_wr, rs_map]
theorem wv_name {i : Nat} {d : D} {QV : En → Prop} : WV (putT (.name i) d e) QV ↔ QV (e.set i (some d)) := wv_some
theorem w1_setI {o i x : CE} : W1 C (.setI o i x) e S QB ↔ WE C x e S fun d S => WE C o e S fun p S => WE C i e S fun j S => WV (setD p j d S) fun S => QB .nx e S := by unfold W1 WE; simp only [exS, bns_wr, rs_map]
theorem w1_setA {o x : CE} {f : Str} : W1 C (.setA o f x) e S QB ↔ WE C x e S fun d S => WE C o e S fun p S => WV (satD p f d S) fun S => QB .nx e S := by unfold W1 WE; simp only [exS, bns_wr, rs_map]
theorem w1_exp {x : CE} : W1 C (.exp x) e S QB ↔ WE C x e S fun _ S => QB .nx e S := by unfold W1 WE; simp only [exS, bns_wr, rs_some]
theorem w1_ret {x : CE} : W1 C (.ret x) e S QB ↔ WE C x e S fun d S => QB (.rt d) e S := by unfold W1 WE; simp only [exS, bns_wr, rs_some]
theorem w1_retN : W1 C .retN e S QB ↔ QB (.rt .non) e S := by unfold W1; simp only [exS, rs_some]
theorem w1_pass : W1 C .pass e S QB ↔ QB .nx e S := by unfold W1; simp only [exS, rs_some]
theorem w1_brk : W1 C .brk e S QB ↔ QB .bk e S := by unfold W1; simp only [exS, rs_some]
theorem w1_cnt : W1 C .cnt e S QB ↔ QB .ct e S := by unfold W1; simp only [exS, rs_some]
theorem w1_if {c : CE} {a b : CSs} : W1 C (.ifS c a b) e S QB ↔ WE C c e S fun x S => WV (truD x S) fun k => if k = true then WB C a e S QB else WB C b e S QB := by
  have h : W1 C (.ifS c a b) e S QB ↔ WT C c e S fun k S => if k = true then WB C a e S QB else WB C b e S QB := by
    unfold W1 WB WT
    simp only [exS, bns_wr]
    constructor
    · rintro ⟨k, S1, h, q⟩
      refine ⟨k, S1, h, ?_⟩
      cases k <;> simpa using q
    · rintro ⟨k, S1, h, q⟩
      refine ⟨k, S1, h, ?_⟩
      cases k <;> simpa using q
  rw [h, wt_]
theorem rs_mat {m : Option α} {k : α → Rs} : (∃ fl' e2 S2, (match (generalizing := false) m with
    | some a => k a
    | none => none) = some (fl', e2, S2) ∧ QB fl' e2 S2) ↔ WV m fun a => ∃ fl' e2 S2, k a = some (fl', e2, S2) ∧ QB fl' e2 S2 := by
  cases m with
  | none => simp only [rs_none, wv_none]
  | some a => simp only [wv_some]
theorem wv_congr {m : Option α} {Q Q' : α → Prop} (h : ∀ a, Q a ↔ Q' a) : WV m Q ↔ WV m Q' := ⟨fun ⟨a, e, q⟩ => ⟨a, e, (h a).mp q⟩, fun ⟨a, e, q⟩ => ⟨a, e, (h a).mpr q⟩⟩
theorem w1_aug {i : Nat} {op : Operator} {x : CE} {a : D} (h : e[i]? = some (some a)) : W1 C (.aug i op x) e S QB ↔ WE C x e S fun d S => WV (augD op a d) fun z => QB .nx (e.set i (some z)) S := by
  unfold W1 WE
  simp only [exS, h, bns_wr]
  refine wr_congr fun d S => ?_
  cases augD op a d with
  | none => simp only [rs_none, wv_none]
  | some z => simp only [rs_some, wv_some]
theorem w1_augA {o x : CE} {f : Str} {op : Operator} : W1 C (.augA o f op x) e S QB ↔ WE C o e S fun p S => WV (atrD p f S) fun a => WE C x e S fun d S2 => clsD p S = clsD p S2 ∧ WV (augI op a d) fun z => WV (satD p f z S2) fun S => QB .nx e S := by
  unfold W1 WE
  simp only [exS, bns_wr]
  refine wr_congr fun p S => ?_
  cases atrD p f S with
  | none => simp only [rs_none, wv_none]
  | some a =>
    simp only [wv_some, bns_wr]
    refine wr_congr fun d S2 => rs_if.trans (and_congr_right fun _ => ?_)
    cases augI op a d with
    | none => simp only [rs_none, wv_none]
    | some z => simp only [rs_map, wv_some]
theorem w1_setStar {is : List Nat} {r : Nat} {x : CE} : W1 C (.setStar is r x) e S QB ↔ WE C x e S fun d S => ∃ xs, d = .tup xs ∧ (is.length ≤ xs.length ∧ xs.length ≤ line) ∧ QB .nx (((is ++ [r]).zip (xs.take is.length ++ [.ref S.length])).foldl (fun e (i, x) => e.set i (some x)) e) (S ++ [.lst (xs.drop is.length)]) := by
  unfold W1 WE
  simp only [exS, bns_wr]
  constructor
  · rintro ⟨d, S1, h1, q⟩
    refine ⟨d, S1, h1, ?_⟩
    cases d with
    | tup xs => simp only [rs_if, rs_some] at q; exact ⟨xs, rfl, q⟩
    | _ => exact (rs_none.mp q).elim
  · rintro ⟨d, S1, h1, xs, rfl, q⟩
    refine ⟨_, S1, h1, ?_⟩
    simp only [rs_if, rs_some]
    exact q
theorem w1_setLst {is : List Nat} {x : CE} : W1 C (.setLst is x) e S QB ↔ WE C x e S fun d S => WV (lstD d S) fun xs => xs.length = is.length ∧ QB .nx ((is.zip xs).foldl (fun e (i, x) => e.set i (some x)) e) S := by
  unfold W1 WE
  simp only [exS, bns_wr]
  refine wr_congr fun d S => ?_
  cases lstD d S with
  | none => simp only [rs_none, wv_none]
  | some xs => simp only [rs_if, rs_some, wv_some]
theorem wb_nil : WB C .nil e S QB ↔ QB .nx e S := by unfold WB; simp only [exSs, rs_some]
theorem wb_cons {s : CS} {r : CSs} : WB C (.cons s r) e S QB ↔ W1 C s e S (WK C r QB) := by
  unfold WB W1
  rw [exSs]
  constructor
  · rintro ⟨fl, e1, S1, h, q⟩
    cases hs : exS C s e S with
    | none => rw [hs] at h; cases h
    | some p =>
      obtain ⟨fl2, e2, S2⟩ := p
      rw [hs] at h
      refine ⟨fl2, e2, S2, rfl, ?_⟩
      cases fl2 with
      | nx => exact ⟨fl, e1, S1, h, q⟩
      | _ => cases h; exact q
  · rintro ⟨fl, e1, S1, h, q⟩
    cases fl with
    | nx => obtain ⟨a, b, c, h2, q⟩ := q; exact ⟨a, b, c, by rw [h]; exact h2, q⟩
    | _ => exact ⟨_, e1, S1, by rw [h], q⟩
theorem wk_nx {r : CSs} : WK C r QB .nx e S ↔ WB C r e S QB := Iff.rfl
theorem wk_rt {r : CSs} {d : D} : WK C r QB (.rt d) e S ↔ QB (.rt d) e S := Iff.rfl
theorem wk_bk {r : CSs} : WK C r QB .bk e S ↔ QB .bk e S := Iff.rfl
theorem wk_ct {r : CSs} : WK C r QB .ct e S ↔ QB .ct e S := Iff.rfl
theorem end_nx : endQ Q .nx S ↔ Q .non S := Iff.rfl
theorem end_rt {d : D} : endQ Q (.rt d) S ↔ Q d S := Iff.rfl
/-! ### loops -/
theorem w1_for {tg : Tg} {src : Src} {it : CEs} {b : CSs} : W1 C (.for_ tg src it b) e S QB ↔ WEs C it e S fun as S => WV (itD src as S) fun p => ∃ fl e2 S2, forLoop (forB (exSs C b) tg) p.1 e (p.2.foldl froz S) = some (fl, e2, S2) ∧ QB fl e2 (p.2.foldl (thaw S) S2) := by
  unfold W1 WEs
  simp only [exS, bns_wr]
  refine wr_congr fun as S1 => ?_
  cases hi : itD src as S1 with
  | none => simp only [rs_none, wv_none]
  | some p =>
    obtain ⟨xs, st⟩ := p
    simp only [wv_some]
    cases hl : forLoop (forB (exSs C b) tg) xs e (st.foldl froz S1) with
    | none => exact ⟨fun ⟨_, _, _, e, _⟩ => (nomatch e), fun ⟨_, _, _, e, _⟩ => (nomatch e)⟩
    | some r => obtain ⟨fl, e2, S2⟩ := r; exact ⟨fun ⟨_, _, _, e, q⟩ => by cases e; exact ⟨_, _, _, rfl, q⟩, fun ⟨_, _, _, e, q⟩ => by cases e; exact ⟨_, _, _, rfl, q⟩⟩
/-- a for by an invariant of the things left -/
theorem for_run {f : D → En → Sto → Rs} {Q : Fl → En → Sto → Prop} (Inv : List D → En → Sto → Prop) (done : ∀ e S, Inv [] e S → Q .nx e S)
    (step : ∀ x xs e S, Inv (x :: xs) e S → ∃ fl e1 S1, f x e S = some (fl, e1, S1) ∧ match fl with
      | .nx => Inv xs e1 S1
      | .ct => Inv xs e1 S1
      | .bk => Q .nx e1 S1
      | .rt d => Q (.rt d) e1 S1) : ∀ xs e S, Inv xs e S → ∃ fl e1 S1, forLoop f xs e S = some (fl, e1, S1) ∧ Q fl e1 S1
  | [], e, S, h => ⟨.nx, e, S, rfl, done e S h⟩
  | x :: xs, e, S, h => by
    obtain ⟨fl, e1, S1, h1, q⟩ := step x xs e S h
    simp only [forLoop, h1]
    cases fl with
    | nx => exact for_run Inv done step xs e1 S1 q
    | ct => exact for_run Inv done step xs e1 S1 q
    | bk => exact ⟨_, _, _, rfl, q⟩
    | rt d => exact ⟨_, _, _, rfl, q⟩
theorem forB_name {f : En → Sto → Rs} {i : Nat} {x : D} : forB f (.name i) x e S = f (e.set i (some x)) S := rfl
theorem w1_whl {c : CE} {b : CSs} : W1 C (.whl c b) e S QB ↔ ∃ fl e2 S2, whlLoop (tstE C c) (exSs C b) turns e S = some (fl, e2, S2) ∧ QB fl e2 S2 := by unfold W1; simp only [exS]
/-- a while by a measure -/
theorem whl_run {t : En → Sto → Re Bool} {f : En → Sto → Rs} {Q : Fl → En → Sto → Prop} (Inv : Nat → En → Sto → Prop)
    (step : ∀ m e S, Inv m e S → ∃ k S1, t e S = some (k, S1) ∧ if k = true then ∃ fl e2 S2, f e S1 = some (fl, e2, S2) ∧ (match fl with
      | .nx => ∃ m', m' < m ∧ Inv m' e2 S2
      | .ct => ∃ m', m' < m ∧ Inv m' e2 S2
      | .bk => Q .nx e2 S2
      | .rt d => Q (.rt d) e2 S2) else Q .nx e S1) : ∀ n m e S, m < n → Inv m e S → ∃ fl e2 S2, whlLoop t f n e S = some (fl, e2, S2) ∧ Q fl e2 S2
  | 0, m, e, S, hm, _ => absurd hm (Nat.not_lt_zero _)
  | n + 1, m, e, S, hm, h => by
    obtain ⟨k, S1, h1, q⟩ := step m e S h
    cases k with
    | false => exact ⟨.nx, e, S1, by simp only [whlLoop, h1], by simpa using q⟩
    | true =>
      rw [if_pos rfl] at q
      obtain ⟨fl, e2, S2, h2, q⟩ := q
      simp only [whlLoop, h1, h2]
      cases fl with
      | nx => obtain ⟨m', hm', q⟩ := q; exact whl_run Inv step n m' e2 S2 (by omega) q
      | ct => obtain ⟨m', hm', q⟩ := q; exact whl_run Inv step n m' e2 S2 (by omega) q
      | bk => exact ⟨_, _, _, rfl, q⟩
      | rt d => exact ⟨_, _, _, rfl, q⟩
/-- a comprehension's loop by what is kept so far -/
theorem lc_run {f : D → Sto → Option (Option D × Sto)} (Inv : List D → List D → Sto → Prop)
    (step : ∀ x xs ys S, Inv (x :: xs) ys S → ∃ o S1, f x S = some (o, S1) ∧ Inv xs (ys ++ o.toList) S1) : ∀ xs ys S, Inv xs ys S → ∃ zs S1, lcLoop f xs S = some (zs, S1) ∧ Inv [] (ys ++ zs) S1
  | [], ys, S, h => ⟨[], S, rfl, by rw [List.append_nil]; exact h⟩
  | x :: xs, ys, S, h => by
    obtain ⟨o, S1, h1, q⟩ := step x xs ys S h
    obtain ⟨zs, S2, h2, q2⟩ := lc_run Inv step xs _ S1 q
    exact ⟨o.toList ++ zs, S2, by simp only [lcLoop, h1, h2], by rw [← List.append_assoc]; exact q2⟩
end
end PC
end
section
set_option Elab.async false
set_option linter.all false
set_option maxRecDepth 100000
set_option maxHeartbeats 1000000
/-! The words on values of known kinds. -/
namespace PC
open PySem
section
variable {S : Sto} {i j : Int} {x y : Str} {n : Nat} {d : D}
theorem isLam_i : isLam (.int i) = false := rfl
theorem isLam_s : isLam (.str x) = false := rfl
theorem isLam_n : isLam .non = false := rfl
theorem isLam_b {b : Bool} : isLam (.bl b) = false := rfl
theorem isLam_t {xs : List D} : isLam (.tup xs) = false := rfl
theorem isLam_f {xs : List D} : isLam (.frl xs) = false := rfl
theorem isLam_r : isLam (.ref n) = false := rfl
theorem intD_i : intD (.int i) = some i := rfl
theorem at_0 {α : Type} {a : α} {xs : List α} : L2.atI (a :: xs) 0 = some a := L2.atI_nat (j := 0) rfl
theorem at_1 {α : Type} {a b : α} {xs : List α} : L2.atI (a :: b :: xs) 1 = some b := L2.atI_nat (j := 1) rfl
theorem at_2 {α : Type} {a b c : α} {xs : List α} : L2.atI (a :: b :: c :: xs) 2 = some c := L2.atI_nat (j := 2) rfl
theorem at_3 {α : Type} {a b c d : α} {xs : List α} : L2.atI (a :: b :: c :: d :: xs) 3 = some d := L2.atI_nat (j := 3) rfl
theorem at_4 {α : Type} {a b c d e : α} {xs : List α} : L2.atI (a :: b :: c :: d :: e :: xs) 4 = some e := L2.atI_nat (j := 4) rfl
theorem at_5 {α : Type} {a b c d e f : α} {xs : List α} : L2.atI (a :: b :: c :: d :: e :: f :: xs) 5 = some f := L2.atI_nat (j := 5) rfl
theorem le_line {k : Nat} (h : k ≤ 16777216) : (k ≤ line) = True := eq_true h
theorem lt_line {k : Nat} (h : k < 16777216) : (k < line) = True := eq_true h
theorem truD_bl {b : Bool} : truD (.bl b) S = some b := rfl
theorem isDk_ref : isDk (.ref n) S = match S[n]? with
    | some (.dk _) => true
    | _ => false := rfl
theorem biD_1 {b : Bi} : biD b [d] S = bi1 b d S := rfl
theorem biD_2 {b : Bi} {e : D} : biD b [d, e] S = bi2 b d e S := rfl
theorem bi1_len : bi1 .len d S = giv ((lenD d S).map .int) S := rfl
theorem bi1_repr : bi1 .repr d S = giv ((reprD d S).map .str) S := rfl
theorem dec_i : (i == j) = decide (i = j) := by rw [Bool.eq_iff_iff]; simp
theorem dec_s : (x == y) = decide (x = y) := by rw [Bool.eq_iff_iff]; simp
theorem rdQ_i : rdQ S (.int i) = some (.int i) := rfl
theorem rdQ_s : rdQ S (.str x) = some (.str x) := rfl
theorem rdQ_n : rdQ S .non = some .none := rfl
theorem cmp_eq_i : cmpD .Eq (.int i) (.int j) S = some (decide (i = j)) := by
  show some ((PyData.int i).eqv (.int j)) = _
  simp only [PyData.eqv, dec_i, dec_s]
theorem cmp_ne_i : cmpD .NotEq (.int i) (.int j) S = some (!decide (i = j)) := by
  show some (!(PyData.int i).eqv (.int j)) = _
  simp only [PyData.eqv, dec_i, dec_s]
theorem cmp_eq_s : cmpD .Eq (.str x) (.str y) S = some (decide (x = y)) := by
  show some ((PyData.str x).eqv (.str y)) = _
  simp only [PyData.eqv, dec_i, dec_s]
theorem cmp_ne_s : cmpD .NotEq (.str x) (.str y) S = some (!decide (x = y)) := by
  show some (!(PyData.str x).eqv (.str y)) = _
  simp only [PyData.eqv, dec_i, dec_s]
theorem cmp_lt_i : cmpD .Lt (.int i) (.int j) S = some (decide (i < j)) := rfl
theorem cmp_le_i : cmpD .LtE (.int i) (.int j) S = some (decide (i ≤ j)) := rfl
theorem cmp_gt_i : cmpD .Gt (.int i) (.int j) S = some (decide (j < i)) := rfl
theorem cmp_ge_i : cmpD .GtE (.int i) (.int j) S = some (decide (j ≤ i)) := rfl
theorem bin_add_i : binD .Add (.int i) (.int j) S = some (.int (i + j), S) := rfl
theorem bin_sub_i : binD .Sub (.int i) (.int j) S = some (.int (i - j), S) := rfl
theorem bin_mod_i (h : 0 < j) : binD .Mod (.int i) (.int j) S = some (.int (i % j), S) := if_pos h
theorem bin_div_i (h : 0 < j ∧ j < 1073741824) : binD .FloorDiv (.int i) (.int j) S = some (.int (i / j), S) := if_pos h
theorem bin_mul_i (h : mulOk i j = true) : binD .Mult (.int i) (.int j) S = some (.int (i * j), S) := if_pos h
theorem mulOk_l (h : -(2 ^ 64) < i ∧ i < 2 ^ 64) : mulOk i j = true := by
  unfold mulOk
  simp only [Bool.or_eq_true, Bool.and_eq_true, decide_eq_true_eq]
  exact .inl h
theorem mulOk_r (h : -(2 ^ 64) < j ∧ j < 2 ^ 64) : mulOk i j = true := by
  unfold mulOk
  simp only [Bool.or_eq_true, Bool.and_eq_true, decide_eq_true_eq]
  exact .inr h
theorem bin_pow18 : binD .Pow (.int 10) (.int 18) S = some (.int 1000000000000000000, S) := by
  have : powOk 10 18 = true := by decide
  show (if powOk 10 18 then some (D.int (10 ^ (18 : Int).toNat), S) else none) = _
  rw [if_pos this]
  rfl
theorem bin_add_s (h : x.length + y.length ≤ line) : binD .Add (.str x) (.str y) S = some (.str (x ++ y), S) := if_pos h
theorem len_lst {xs : List D} (h : S[n]? = some (.lst xs)) : lenD (.ref n) S = some (xs.length : Int) := by simp only [lenD, h]
theorem len_dk {kvs : List (Ky × D)} (h : S[n]? = some (.dk kvs)) : lenD (.ref n) S = some (kvs.length : Int) := by simp only [lenD, h]
theorem idx_lst {xs : List D} (h : S[n]? = some (.lst xs)) : idxD (.ref n) (.int j) S = L2.atI xs j := by simp only [idxD, h]
theorem idx_dk {kvs : List (Ky × D)} (h : S[n]? = some (.dk kvs)) : idxD (.ref n) (.str x) S = valK (.inr x) kvs := by simp only [idxD, h, keyOf]
theorem idx_dki {kvs : List (Ky × D)} (h : S[n]? = some (.dk kvs)) : idxD (.ref n) (.int i) S = valK (.inl i) kvs := by simp only [idxD, h, keyOf]
theorem idx_tup {xs : List D} : idxD (.tup xs) (.int j) S = L2.atI xs j := rfl
theorem met_app {xs : List D} (h : S[n]? = some (.lst xs)) (hl : xs.length < line) : metD (.ref n) "append" [d] S = some (.non, S.set n (.lst (xs ++ [d]))) := by
  show mAppend (.ref n) d S = _
  unfold mAppend
  simp only [h]
  rw [if_pos hl]
theorem metK_lst {xs : List D} (h : S[n]? = some (.lst xs)) : metK (.ref n) S = true := by simp only [metK, h]
theorem metK_str : metK (.str x) S = true := rfl
theorem met_pop {xs : List D} {d : D} (h : S[n]? = some (.lst (xs ++ [d]))) : metD (.ref n) "pop" [] S = some (d, S.set n (.lst xs)) := by
  show mPop (.ref n) S = _
  unfold mPop
  simp only [h, List.length_append, List.length_singleton, Nat.add_sub_cancel]
  simp
theorem met_pop0 {xs : List D} {d : D} (h : S[n]? = some (.lst (d :: xs))) : metD (.ref n) "pop" [.int 0] S = some (d, S.set n (.lst xs)) := by
  show mPopAt (.ref n) (.int 0) S = _
  unfold mPopAt
  simp only [h]
  rw [if_pos (by decide)]
  have : L2.ixN (d :: xs).length 0 = some 0 := by
    unfold L2.ixN
    simp
  rw [this]
  rfl
/-- a list beside an empty one -/
theorem eq_nil {xs : List D} {m : Nat} (h : S[n]? = some (.lst xs)) (hm : S[m]? = some (.lst [])) : cmpD .Eq (.ref n) (.ref m) S = some xs.isEmpty ∧ cmpD .NotEq (.ref n) (.ref m) S = some (!xs.isEmpty) := by
  have h2 : rdQ S (.ref m) = some (.list []) := by
    unfold rdQ
    simp only [rdP, hm, optMap, Option.map_some, noD, noDs, if_true]
  have h3 : eqNil (.ref n) (.ref m) S = some xs.isEmpty := by
    unfold eqNil
    simp only [lstD, h, hm, List.isEmpty_nil, Bool.or_true, if_true, Bool.and_true]
  have key : eqD (.ref n) (.ref m) S = some xs.isEmpty := by
    unfold eqD
    rw [h2]
    cases hr : rdQ S (.ref n) with
    | none => exact h3
    | some p =>
      simp only
      have hp : ∃ ps, p = .list ps ∧ ps.length = xs.length := by
        unfold rdQ at hr
        split at hr
        · rename_i q hq
          split at hr
          · cases hr
            simp only [rdP, h] at hq
            obtain ⟨ps, e1, e2⟩ := Option.map_eq_some_iff.mp hq
            exact ⟨ps, e2.symm, optMap_len e1⟩
          · cases hr
        · cases hr
      obtain ⟨ps, rfl, hl⟩ := hp
      congr 1
      cases ps with
      | nil =>
        have : xs = [] := List.eq_nil_of_length_eq_zero hl.symm
        subst this
        simp [PyData.eqv, PyData.eqvAll]
      | cons a b =>
        cases xs with
        | nil => cases hl
        | cons c d => simp [PyData.eqv, PyData.eqvAll]
  exact ⟨key, by show (eqD _ _ _).map _ = _; rw [key]; rfl⟩
theorem set_lst {xs : List D} {k : Nat} (h : S[n]? = some (.lst xs)) (hk : k < xs.length) : setD (.ref n) (.int k) d S = some (S.set n (.lst (xs.set k d))) := by
  simp only [setD, h]
  have : L2.ixN xs.length (k : Int) = some k := by
    unfold L2.ixN
    rw [if_pos (by omega), if_pos (by omega)]
    simp
  rw [this]
  rfl
theorem set_dk {kvs : List (Ky × D)} (h : S[n]? = some (.dk kvs)) (hl : kvs.length < line) : setD (.ref n) (.str x) d S = some (S.set n (.dk (putK (.inr x) d kvs))) := by
  simp only [setD, h, keyOf]
  rw [if_pos hl]
theorem line_lt {k : Nat} (h : k < 16777216) : k < line := h
theorem line_le {k : Nat} (h : k ≤ 16777216) : k ≤ line := h
/-! ### the frozen store is put back -/
theorem thaw_froz {xs : List D} (h : S[n]? = some (.lst xs)) : thaw S (froz S n) n = S := by
  unfold thaw froz
  rw [h]
  simp only [List.set_set]
  apply List.ext_getElem?
  intro k
  by_cases hk : k = n
  · subst hk
    rw [List.getElem?_set_self (List.getElem?_eq_some_iff.mp h).1, h]
  · rw [List.getElem?_set_ne (Ne.symm hk)]
theorem froz_other {m : Nat} (h : m ≠ n) : (froz S n)[m]? = S[m]? := by
  rcases froz_at S n m with e | ⟨_, e, _⟩
  · exact e
  · exact absurd e h
theorem thaw_other {S0 : Sto} {m : Nat} (h : m ≠ n) : (thaw S0 S n)[m]? = S[m]? := by
  rcases thaw_at S0 S n m with e | ⟨_, e, _⟩
  · exact e
  · exact absurd e h
/-- a walk over a list that stands in the store, while all else may change -/
theorem thaw_same {S0 : Sto} {xs : List D} (h0 : S0[n]? = some (.lst xs)) (hl : n < S.length) : (thaw S0 S n)[n]? = some (.lst xs) := by
  unfold thaw
  rw [h0]
  exact List.getElem?_set_self hl
/-- a comprehension's loop whose turns leave the store -/
theorem lc_pure {f : D → Sto → Option (Option D × Sto)} {g : D → Option D} {S : Sto} : ∀ {xs : List D}, (∀ x ∈ xs, f x S = some (g x, S)) → lcLoop f xs S = some (xs.filterMap g, S)
  | [], _ => rfl
  | x :: xs, h => by
    simp only [lcLoop, h x List.mem_cons_self, lc_pure (xs := xs) fun y hy => h y (List.mem_cons_of_mem _ hy)]
    congr 2
    cases hg : g x <;> simp [List.filterMap_cons, hg]
end
end PC
end
section
set_option Elab.async false
set_option linter.all false
set_option maxRecDepth 100000
set_option maxHeartbeats 1000000
/-! Loops, by what holds between turns. -/
namespace PC
open PySem
def WTs (C : Cal) (x : CEs) (e : En) (S : Sto) (Q : Bool → Sto → Prop) : Prop := WR (tstEs C x e S) Q
section
variable {C : Cal} {e e' : En} {S S' : Sto} {Q : D → Sto → Prop} {QL : List D → Sto → Prop} {QB : Fl → En → Sto → Prop} {QT : Bool → Sto → Prop} {xs : List D} {st : List Nat} {src : Src} {as : List D} {tg : Tg}
theorem wts_nil : WTs C .nil e S QT ↔ QT true S := by unfold WTs; rw [tstEs]; exact wr_some
theorem wts_cons {a : CE} {r : CEs} : WTs C (.cons a r) e S QT ↔ WE C a e S fun x S => WV (truD x S) fun b => if b = true then WTs C r e S QT else QT false S := by
  unfold WTs WE
  rw [tstEs]
  simp only [wr_bnd]
  refine wr_congr fun x S1 => ?_
  cases ht : truD x S1 with
  | none => simp only [wr_none, wv_none]
  | some k => cases k <;> simp [wv_some, wr_some]
theorem lc_w {f : En → Sto → Re D} {t : CEs} (hi : itD src as S = some (xs, st)) (Inv : List D → List D → Sto → Prop) (h0 : Inv xs [] (st.foldl froz S))
    (step : ∀ x xs ys S1, Inv (x :: xs) ys S1 → ∃ e1, putT tg x e = some e1 ∧ WTs C t e1 S1 fun b S2 => if b = true then WR (f e1 S2) fun d S3 => Inv xs (ys ++ [d]) S3 else Inv xs ys S2)
    (fin : ∀ ys S1, Inv [] ys S1 → QL ys (st.foldl (thaw S) S1)) : WR (lcRun src as S (lcTn (tstEs C t) f tg e)) QL := by
  obtain ⟨zs, S1, h1, h2⟩ := lc_run (f := lcTn (tstEs C t) f tg e) Inv (fun x xs ys S1 h => by
    obtain ⟨e1, p1, b, S2, p2, p3⟩ := step x xs ys S1 h
    cases b with
    | false => exact ⟨none, S2, by simp only [lcTn, p1, p2], by simpa using p3⟩
    | true =>
      rw [if_pos rfl] at p3
      obtain ⟨d, S3, p4, p5⟩ := p3
      exact ⟨some d, S3, by simp only [lcTn, p1, p2, p4], p5⟩) xs [] _ h0
  refine ⟨zs, _, ?_, fin zs S1 (by simpa using h2)⟩
  unfold lcRun
  simp only [hi, h1]
theorem lc_map {f : En → Sto → Re D} {g : D → D} (hi : itD src as S = some (xs, st)) (hst : st.foldl (thaw S) (st.foldl froz S) = S)
    (step : ∀ x ∈ xs, ∃ e1, putT tg x e = some e1 ∧ WR (f e1 (st.foldl froz S)) fun d S3 => S3 = st.foldl froz S ∧ d = g x) (fin : QL (xs.map g) S) : WR (lcRun src as S (lcTn (tstEs C .nil) f tg e)) QL := by
  refine lc_w hi (fun ys zs S1 => S1 = st.foldl froz S ∧ ∃ ws, xs = ws ++ ys ∧ zs = ws.map g) ⟨rfl, [], rfl, rfl⟩ (fun x ys zs S1 ⟨h1, ws, h2, h3⟩ => ?_) fun zs S1 ⟨h1, ws, h2, h3⟩ => ?_
  · subst h1 h3
    obtain ⟨e1, p1, p2⟩ := step x (by rw [h2]; simp)
    refine ⟨e1, p1, wts_nil.mpr ?_⟩
    rw [if_pos rfl]
    refine p2.mono fun d S3 ⟨q1, q2⟩ => ⟨q1, ws ++ [x], by rw [h2]; simp, by rw [q2]; simp⟩
  · subst h1 h3
    rw [hst]
    rw [List.append_nil] at h2
    rw [← h2]
    exact fin
theorem lcK_w {f : En → Sto → Re D} {t : CEs} {ks : List D} (Inv : List D → List D → Sto → Prop) (h0 : Inv ks [] S)
    (step : ∀ x xs ys S1, Inv (x :: xs) ys S1 → ∃ e1, putT tg x e = some e1 ∧ WTs C t e1 S1 fun b S2 => if b = true then WR (f e1 S2) fun d S3 => Inv xs (ys ++ [d]) S3 else Inv xs ys S2) : ∃ zs S1, lcLoop (lcTn (tstEs C t) f tg e) ks S = some (zs, S1) ∧ Inv [] zs S1 := by
  obtain ⟨zs, S1, h1, h2⟩ := lc_run (f := lcTn (tstEs C t) f tg e) Inv (fun x xs ys S1 h => by
    obtain ⟨e1, p1, b, S2, p2, p3⟩ := step x xs ys S1 h
    cases b with
    | false => exact ⟨none, S2, by simp only [lcTn, p1, p2], by simpa using p3⟩
    | true =>
      rw [if_pos rfl] at p3
      obtain ⟨d, S3, p4, p5⟩ := p3
      exact ⟨some d, S3, by simp only [lcTn, p1, p2, p4], p5⟩) ks [] _ h0
  exact ⟨zs, S1, h1, by simpa using h2⟩
theorem for_w {b : CSs} (hi : itD src as S = some (xs, st)) (Inv : List D → En → Sto → Prop) (h0 : Inv xs e (st.foldl froz S))
    (step : ∀ x xs e1 S1, Inv (x :: xs) e1 S1 → ∃ e2, putT tg x e1 = some e2 ∧ WB C b e2 S1 fun fl e3 S3 => match fl with
      | .nx => Inv xs e3 S3
      | .ct => Inv xs e3 S3
      | .bk => QB .nx e3 (st.foldl (thaw S) S3)
      | .rt d => QB (.rt d) e3 (st.foldl (thaw S) S3))
    (fin : ∀ e1 S1, Inv [] e1 S1 → QB .nx e1 (st.foldl (thaw S) S1)) :
    WV (itD src as S) fun p => ∃ fl e2 S2, forLoop (forB (exSs C b) tg) p.1 e (p.2.foldl froz S) = some (fl, e2, S2) ∧ QB fl e2 (p.2.foldl (thaw S) S2) := by
  rw [hi, wv_some]
  refine for_run (Q := fun fl e1 S1 => QB fl e1 (st.foldl (thaw S) S1)) Inv fin (fun x xs e1 S1 h => ?_) xs e _ h0
  obtain ⟨e2, p1, fl, e3, S3, p2, p3⟩ := step x xs e1 S1 h
  refine ⟨fl, e3, S3, by simp only [forB, p1, p2], ?_⟩
  cases fl <;> exact p3
theorem whl_w {c : CE} {b : CSs} (Inv : Nat → En → Sto → Prop) (m : Nat) (hm : m < turns) (h0 : Inv m e S)
    (step : ∀ m e S, Inv m e S → WE C c e S fun x S1 => WV (truD x S1) fun k => if k = true then WB C b e S1 fun fl e2 S2 => match fl with
      | .nx => ∃ m', m' < m ∧ Inv m' e2 S2
      | .ct => ∃ m', m' < m ∧ Inv m' e2 S2
      | .bk => QB .nx e2 S2
      | .rt d => QB (.rt d) e2 S2 else QB .nx e S1) : W1 C (.whl c b) e S QB := by
  rw [w1_whl]
  refine whl_run Inv (fun m e S h => ?_) turns m e S hm h0
  obtain ⟨k, S1, q1, q2⟩ := wt_.mpr (step m e S h)
  refine ⟨k, S1, q1, ?_⟩
  cases k with
  | false => simpa using q2
  | true =>
    rw [if_pos rfl] at q2 ⊢
    obtain ⟨fl, e2, S2, q3, q4⟩ := q2
    refine ⟨fl, e2, S2, q3, ?_⟩
    cases fl <;> exact q4
/-- a comprehension over a dict in a slot -/
theorem we_lcK {elt : CE} {j : Nat} {ifs : CEs} {own : List Nat} {n : Nat} {kvs : List (Ky × D)} (hj : e[j]? = some (some (.ref n))) (hn : S[n]? = some (.dk kvs))
    (Inv : List D → List D → Sto → Prop) (h0 : Inv (kvs.map fun kv => kyD kv.1) [] (S.set n (.frk kvs)))
    (step : ∀ x xs ys S1, Inv (x :: xs) ys S1 → ∃ e1, putT tg x (wipe e own) = some e1 ∧ WTs C ifs e1 S1 fun b S2 => if b = true then WE C elt e1 S2 fun d S3 => Inv xs (ys ++ [d]) S3 else Inv xs ys S2)
    (fin : ∀ ys S1, Inv [] ys S1 → ys.length < line ∧ Q (.ref S1.length) (S1.set n (.dk kvs) ++ [.lst ys])) : WE C (.lcK elt tg j ifs own) e S Q := by
  obtain ⟨zs, S1, h1, h2⟩ := lcK_w (C := C) (f := evE C elt) (t := ifs) (tg := tg) (e := wipe e own) Inv h0 step
  obtain ⟨q1, q2⟩ := fin zs S1 h2
  refine ⟨_, _, ?_, q2⟩
  rw [evE]
  simp only [hj, hn, h1, q1, if_true, new, List.length_set]
/-- a dict is no walked value: the other way is taken -/
theorem we_altK {elt a : CE} {tg2 : Tg} {i : Nat} {ifs : CEs} {own : List Nat} {n : Nat} {kvs : List (Ky × D)} (hj : e[i]? = some (some (.ref n))) (hn : S[n]? = some (.dk kvs)) (h : WE C a e S Q) : WE C (.alt (.lc elt tg2 .val (.cons (.var i) .nil) ifs own) a) e S Q := by
  refine we_alt2 ?_ h
  rw [evE]
  have : evEs C (.cons (.var i) .nil) e S = some ([.ref n], S) := by
    simp only [evEs, evE, hj, isLam, bnd, if_false, Bool.false_eq_true]
  simp only [this, bnd]
  have h2 : lcRun .val [.ref n] S (lcTn (tstEs C ifs) (evE C elt) tg2 (wipe e own)) = none := by
    unfold lcRun
    simp only [itD, itV, hn]
  rw [h2]
theorem set_self {S : Sto} {n : Nat} {o o2 : Ob} (h : S[n]? = some o) : (S.set n o2).set n o = S := by
  rw [List.set_set]
  apply List.ext_getElem?
  intro k
  by_cases hk : k = n
  · subst hk
    rw [List.getElem?_set_self (List.getElem?_eq_some_iff.mp h).1, h]
  · rw [List.getElem?_set_ne (Ne.symm hk)]
/-- .. whose turns leave the store: what is kept -/
theorem we_lcK_pure {elt : CE} {j i : Nat} {ifs : CEs} {own : List Nat} {n : Nat} {kvs : List (Ky × D)} {g : D → Option D} (hj : e[j]? = some (some (.ref n))) (hn : S[n]? = some (.dk kvs)) (hl : kvs.length < line)
    (step : ∀ kv ∈ kvs, WTs C ifs ((wipe e own).set i (some (kyD kv.1))) (S.set n (.frk kvs)) fun b S2 => S2 = S.set n (.frk kvs) ∧ if b = true then WE C elt ((wipe e own).set i (some (kyD kv.1))) S2 fun d S3 => S3 = S2 ∧ g (kyD kv.1) = some d else g (kyD kv.1) = none)
    (fin : Q (.ref S.length) (S ++ [.lst ((kvs.map fun kv => kyD kv.1).filterMap g)])) : WE C (.lcK elt (.name i) j ifs own) e S Q := by
  refine we_lcK hj hn (fun xs ys S1 => S1 = S.set n (.frk kvs) ∧ ∃ zs, kvs.map (fun kv => kyD kv.1) = zs ++ xs ∧ ys = zs.filterMap g) ⟨rfl, [], rfl, rfl⟩ (fun x xs ys S1 ⟨h1, zs, h2, h3⟩ => ⟨_, rfl, ?_⟩) (fun ys S1 ⟨h1, zs, h2, h3⟩ => ?_)
  · subst h1 h3
    have hm : x ∈ kvs.map fun kv => kyD kv.1 := by rw [h2]; simp
    obtain ⟨kv, hkv, rfl⟩ := List.mem_map.mp hm
    refine (step kv hkv).mono fun b S2 ⟨q1, q2⟩ => ?_
    cases b with
    | true =>
      rw [if_pos rfl] at q2 ⊢
      refine q2.mono fun d S3 ⟨q3, q4⟩ => ⟨by rw [q3, q1], zs ++ [kyD kv.1], by rw [h2]; simp, ?_⟩
      rw [List.filterMap_append]
      simp [q4]
    | false =>
      rw [if_neg (by simp)] at q2 ⊢
      refine ⟨q1, zs ++ [kyD kv.1], by rw [h2]; simp, ?_⟩
      rw [List.filterMap_append]
      simp [q2]
  · subst h1 h3
    rw [List.append_nil] at h2
    rw [← h2, List.length_set, set_self hn]
    refine ⟨?_, fin⟩
    exact Nat.lt_of_le_of_lt (List.length_filterMap_le _ _) (by rw [List.length_map]; exact hl)
end
end PC
end
section
local macro_rules | `(tactic| walk_at "pw") => `(tactic| simp only [PC.we_non, PC.we_bl, PC.we_int, PC.we_str, PC.we_fnv, PC.we_var, PC.we_glo, PC.we_bin, PC.we_neg, PC.we_not, PC.we_and, PC.we_or, PC.we_ifE, PC.we_cmp, PC.we_chain, PC.we_call, PC.we_imth, PC.we_meth, PC.we_bi, PC.we_isi, PC.we_isx, PC.isx_exc, PC.we_mkx, PC.we_attr, PC.we_idx, PC.we_slc, PC.wo_no, PC.wo_so, PC.we_tup, PC.we_lst, PC.wes_nil, PC.wes_cons, PC.we_dget, PC.we_dsetd, PC.we_dupd, PC.we_ditm, PC.we_srtSet, PC.we_srtItm, PC.we_lzip, PC.we_dic, PC.we_col, PC.we_rev, PC.w1_set, PC.wv_name, PC.w1_setI, PC.w1_setA, PC.w1_exp, PC.w1_ret, PC.w1_retN, PC.w1_pass, PC.w1_brk, PC.w1_cnt, PC.w1_if, PC.w1_augA, PC.w1_setStar, PC.w1_setLst, PC.wb_nil, PC.wb_cons, PC.wk_nx, PC.wk_rt, PC.wk_bk, PC.wk_ct, PC.end_nx, PC.end_rt, PC.wr_some, PC.wr_none, PC.wv_some, PC.wv_none, PC.wr_bnd, PC.wr_giv, PC.wr_new, PC.wv_map, PC.getV, PC.wipe, PC.metK_str, PC.isLam_i, PC.isLam_s, PC.isLam_n, PC.isLam_b, PC.isLam_t, PC.isLam_f, PC.isLam_r, PC.intD_i, PC.at_0, PC.at_1, PC.at_2, PC.at_3, PC.at_4, PC.at_5, PC.le_line, PC.lt_line, PC.idx_tup, PC.bin_pow18, Nat.reduceLeDiff, Nat.reduceLT, PC.putT, PC.truD_bl, PC.isDk_ref, PC.bi1_len, PC.bi1_repr, PC.biD_1, PC.biD_2, PC.cmp_eq_i, PC.cmp_ne_i, PC.cmp_lt_i, PC.cmp_le_i, PC.cmp_gt_i, PC.cmp_ge_i, PC.cmp_eq_s, PC.cmp_ne_s, PC.bin_add_i, PC.bin_sub_i, List.getElem?_cons_succ, List.getElem?_cons_zero, List.set_cons_succ, List.set_cons_zero, List.length_cons, List.length_nil, List.foldl_cons, List.foldl_nil, List.zip_cons_cons, List.zip_nil_right, List.map_cons, List.map_nil, List.cons_append, List.nil_append, Nat.zero_add, Nat.reduceAdd, if_true, if_false, Bool.false_eq_true, Bool.not_true, Bool.not_false, true_and, and_true])
local macro_rules | `(tactic| walk_at "pwt") => `(tactic| try walk_at "pw")
section
set_option Elab.async false
set_option linter.all false
set_option maxRecDepth 100000
set_option maxHeartbeats 1000000
namespace K05
open PySem PC
abbrev CC (L : Nat) : Cal := calL prog L
theorem cP (L : Nat) : (CC L).P = prog := by cases L <;> rfl
theorem wf_def {L k : Nat} {F : Fn} (h : fnl[k]? = some F) {as : List D} {S : Sto} {Q : D → Sto → Prop} (hl : as.length = F.ps) : WF (CC (L + 1)) k as S Q ↔ WB (CC L) F.body (as.map some ++ List.replicate (F.slots - F.ps) none) S fun fl _ S' => endQ Q fl S' := by
  unfold WF WB
  show WR (oneF (CC L) k as S) Q ↔ _
  unfold oneF
  rw [cP, show prog.fns[k]? = some F from h]
  simp only
  rw [if_pos hl]
  cases exSs (CC L) F.body (as.map some ++ List.replicate (F.slots - F.ps) none) S with
  | none => simp only [endD, wr_none, rs_none]
  | some p =>
    obtain ⟨fl, e, S1⟩ := p
    simp only [rs_some]
    cases fl <;> simp only [endD, endQ, wr_some, wr_none]
structure Dk (n c : Nat) (S : Sto) : Prop where
  ne : n ≠ c
  at_ : ∃ (cells : List Int) (seed cnt : Int), S[n]? = some (.lst [.ref c, .int seed, .int cnt]) ∧ S[c]? = some (.lst (cells.map .int)) ∧ cells.length ≤ 63
/-- all but some stays, the store may grow -/
structure Frm (M : List Nat) (S S' : Sto) : Prop where
  le : S.length ≤ S'.length
  eq : ∀ m, m < S.length → m ∉ M → S'[m]? = S[m]?
theorem Frm.refl {M : List Nat} {S : Sto} : Frm M S S := ⟨Nat.le_refl _, fun _ _ _ => rfl⟩
theorem Frm.trans {M : List Nat} {S S1 S2 : Sto} (a : Frm M S S1) (b : Frm M S1 S2) : Frm M S S2 := ⟨Nat.le_trans a.le b.le, fun m h1 h2 => (b.eq m (Nat.lt_of_lt_of_le h1 a.le) h2).trans (a.eq m h1 h2)⟩
theorem Frm.at_ {M : List Nat} {m : Nat} {S S' : Sto} {o : Ob} (a : Frm M S S') (h : S[m]? = some o) (h1 : m ∉ M) : S'[m]? = some o := (a.eq m (List.getElem?_eq_some_iff.mp h).1 h1).trans h
theorem Frm.app {M : List Nat} {S : Sto} (T : Sto) : Frm M S (S ++ T) := ⟨by simp, fun m h _ => List.getElem?_append_left h⟩
theorem Frm.set {M : List Nat} {S : Sto} {n : Nat} {o : Ob} (h : n ∈ M) : Frm M S (S.set n o) := ⟨by simp, fun m _ hm => List.getElem?_set_ne (by rintro rfl; exact hm h)⟩
/-- what is new may change -/
theorem Frm.fresh {M : List Nat} {S S1 : Sto} {n : Nat} {o : Ob} (a : Frm M S S1) (h : S.length ≤ n) : Frm M S (S1.set n o) := ⟨by rw [List.length_set]; exact a.le, fun m h1 h2 => (List.getElem?_set_ne (by omega)).trans (a.eq m h1 h2)⟩
theorem Frm.mono {M M' : List Nat} {S S' : Sto} (a : Frm M S S') (h : ∀ m ∈ M, m ∈ M') : Frm M' S S' := ⟨a.le, fun m h1 h2 => a.eq m h1 fun z => h2 (h m z)⟩
/-- a frame of fresh things is none -/
theorem Frm.drop {M : List Nat} {S S1 S2 : Sto} {k : Nat} (a : Frm M S S1) (b : Frm (k :: M) S1 S2) (h : S.length ≤ k) : Frm M S S2 := ⟨Nat.le_trans a.le b.le, fun m h1 h2 => (b.eq m (Nat.lt_of_lt_of_le h1 a.le) (by
  intro z
  rcases List.mem_cons.mp z with rfl | z
  · omega
  · exact h2 z)).trans (a.eq m h1 h2)⟩
/-- a fresh thing changed -/
theorem Frm.trans_fresh {M : List Nat} {S S1 S2 : Sto} {k : Nat} (a : Frm M S S1) (b : Frm [k] S1 S2) (h : S.length ≤ k) : Frm M S S2 := ⟨Nat.le_trans a.le b.le, fun m h1 h2 => (b.eq m (Nat.lt_of_lt_of_le h1 a.le) (by simp; omega)).trans (a.eq m h1 h2)⟩
theorem lt_of {S : Sto} {m : Nat} {o : Ob} (h : S[m]? = some o) : m < S.length := (List.getElem?_eq_some_iff.mp h).1
theorem at_new {S : Sto} {o : Ob} : (S ++ [o])[S.length]? = some o := by simp
theorem at_app {S T : Sto} {m : Nat} {o : Ob} (h : S[m]? = some o) : (S ++ T)[m]? = some o := by rw [List.getElem?_append_left (lt_of h)]; exact h
theorem at_set {S : Sto} {m k : Nat} {o x : Ob} (h : S[m]? = some o) (hk : k ≠ m) : (S.set k x)[m]? = some o := (List.getElem?_set_ne hk).trans h
theorem at_own {S : Sto} {m : Nat} {o x : Ob} (h : S[m]? = some o) : (S.set m x)[m]? = some x := List.getElem?_set_self (lt_of h)
theorem Dk.lt {n c : Nat} {S : Sto} (d : Dk n c S) : n < S.length ∧ c < S.length := by
  obtain ⟨a, b, e, h1, h2, _⟩ := d.at_
  exact ⟨lt_of h1, lt_of h2⟩
theorem Dk.keep {n c : Nat} {S S' : Sto} {M : List Nat} (d : Dk n c S) (f : Frm M S S') (hn : n ∉ M) (hc : c ∉ M) : Dk n c S' := by
  obtain ⟨a, b, e, q1, q2, q3⟩ := d.at_
  exact ⟨d.ne, a, b, e, f.at_ q1 hn, f.at_ q2 hc, q3⟩
theorem Dk.app {n c : Nat} {S : Sto} (d : Dk n c S) {T : Sto} : Dk n c (S ++ T) := d.keep (M := []) (.app T) (by simp) (by simp)
theorem Dk.set {n c k : Nat} {S : Sto} {o : Ob} (d : Dk n c S) (hn : k ≠ n) (hc : k ≠ c) : Dk n c (S.set k o) := d.keep (M := [k]) (.set (by simp)) (by simpa using Ne.symm hn) (by simpa using Ne.symm hc)
def sg (l : List Nat) : Str := ⟨l.toArray⟩
theorem sg_len (l : List Nat) : (sg l).length = l.length := by
  show (l.toArray).size = l.length
  simp
theorem sg_tl (l : List Nat) : (sg l).cps.toList = l := by simp [sg]
theorem sg_app (a b : List Nat) : sg a ++ sg b = sg (a ++ b) := TL.ext_tl (by
  rw [TL.tl_append]
  show (sg a).cps.toList ++ (sg b).cps.toList = (sg (a ++ b)).cps.toList
  rw [sg_tl, sg_tl, sg_tl])
theorem sg_eta (x : Str) : sg x.cps.toList = x := by
  cases x
  simp [sg]
theorem cutL_hi {α : Type} {l : List α} {k : Nat} : cutL l none (some (k : Int)) = l.take k := by
  unfold cutL
  rw [HT.sIx_nat, HT.sIx_none, List.drop_zero, Nat.sub_zero]
  rcases Nat.le_total k l.length with h | h
  · rw [Nat.min_eq_left h]
  · rw [Nat.min_eq_right h, List.take_of_length_le (Nat.le_refl _), List.take_of_length_le h]
abbrev AZ : List Nat := (List.range 26).map (97 + ·)
theorem letters_eq : (("abcdefghijklmnopqrstuvwxyz" : Str)).cps.toList = AZ := by decide +kernel
theorem AZ_eq : ("abcdefghijklmnopqrstuvwxyz" : Str) = sg AZ := by
  rw [← sg_eta "abcdefghijklmnopqrstuvwxyz", letters_eq]
theorem om_cons {α β : Type} {f : α → Option β} {x : α} {xs : List α} {y : β} {ys : List β} (h : f x = some y) (h2 : optMap f xs = some ys) : optMap f (x :: xs) = some (y :: ys) := by
  simp only [optMap, h, h2]
theorem join_sg : ∀ cs : List Nat, Str.join "" (cs.map fun k => sg [k]) = sg cs
  | [] => rfl
  | [k] => rfl
  | k :: j :: r => by
    have ih := join_sg (j :: r)
    rw [List.map_cons] at ih
    rw [List.map_cons, List.map_cons]
    show sg [k] ++ "" ++ Str.join "" (sg [j] :: r.map fun k => sg [k]) = _
    rw [ih, show ("" : Str) = sg [] from by decide +kernel, sg_app, sg_app]
    rfl
theorem om_str1 (cs : List Nat) : optMap strD (cs.map fun k => D.str (sg [k])) = some (cs.map fun k => sg [k]) := by
  induction cs with
  | nil => rfl
  | cons k r ih => exact om_cons rfl ih
theorem met_join {S : Sto} {m : Nat} {cs : List Nat} (hm : S[m]? = some (.lst (cs.map fun k => D.str (sg [k])))) (hl : cs.length ≤ 100) : metD (.str "") "join" [.ref m] S = some (.str (sg cs), S) := by
  have hs : ((cs.map fun k => sg [k]).map (·.length)).sum = cs.length := by
    rw [List.map_map]
    clear hm hl
    induction cs with
    | nil => rfl
    | cons k r ih => rw [List.map_cons, List.sum_cons, ih, List.length_cons, Nat.add_comm]; rfl
  have hm2 : mJoin (.str "") (.ref m) S = some (.str (sg cs), S) := by
    unfold mJoin
    have hq : (seqD (.ref m) S).bind (optMap strD) = some (cs.map fun k => sg [k]) := by
      show (lstD (.ref m) S).bind _ = _
      have : lstD (.ref m) S = some (cs.map fun k => D.str (sg [k])) := by simp only [lstD, hm]
      rw [this]
      exact om_str1 cs
    rw [hq]
    simp only
    rw [if_pos]
    · rw [show Txt.join "" (cs.map fun k => sg [k]) = sg cs from (StrLaws.glued_eq_join _ _).trans (join_sg cs)]
    rw [hs, List.length_map, show ("" : Str).length = 0 from rfl]
    exact Nat.le_trans (by omega) (show 100 ≤ line by decide)
  exact hm2
theorem it_lst {S : Sto} {m : Nat} {xs : List D} (h : S[m]? = some (.lst xs)) : itD .val [.ref m] S = some (xs, [m]) := by
  show itV (.ref m) S = _
  simp only [itV, h]
theorem it_rng {S : Sto} {k : Nat} (h : k < 1000000) : itD .range [.int (k : Int)] S = some ((List.range k).map fun (j : Nat) => .int (0 + j), []) := by
  show itR1 (.int (k : Int)) = _
  unfold itR1
  simp only
  rw [if_pos (by constructor <;> omega)]
  simp
theorem add_sg {S : Sto} {a b : List Nat} (h : a.length + b.length ≤ 1000) : binD .Add (.str (sg a)) (.str (sg b)) S = some (.str (sg (a ++ b)), S) := by
  rw [bin_add_s (by rw [sg_len, sg_len]; exact Nat.le_trans h (by decide)), sg_app]
theorem add_lst {S : Sto} {n m : Nat} {xs ys : List D} (h : S[n]? = some (.lst xs)) (h2 : S[m]? = some (.lst ys)) (hl : xs.length + ys.length ≤ 1000000) : binD .Add (.ref n) (.ref m) S = some (.ref S.length, S ++ [.lst (xs ++ ys)]) := by
  have hl2 : xs.length + ys.length ≤ line := Nat.le_trans hl (by decide)
  simp only [binD, h, h2, hl2, if_true, new]
theorem idx_sg {S : Sto} {w : List Nat} {k : Nat} (h : k < w.length) (hl : w.length ≤ 1000 := by simp) : idxD (.str (sg w)) (.int k) S = some (.str (sg [w[k]])) := by
  have hx : w[k]? = some w[k] := List.getElem?_eq_getElem h
  show (if (sg w).length ≤ line then (L2.atI (sg w).cps.toList (k : Int)).map fun c => D.str ⟨#[c]⟩ else none) = _
  rw [if_pos (by rw [sg_len]; exact Nat.le_trans hl (by decide)), sg_tl, L2.atI_nat hx]
  rfl
theorem mul_lst {S : Sto} {n : Nat} {xs : List D} {j : Nat} (h : S[n]? = some (.lst xs)) (hj : j ≤ 1000) (hl : xs.length * j ≤ 1000000) : binD .Mult (.ref n) (.int j) S = some (.ref S.length, S ++ [.lst ((List.replicate j xs).flatten)]) := by
  have h2 : (0 : Int) ≤ (j : Int) ∧ (j : Int) ≤ 1000 ∧ xs.length * (j : Int).toNat ≤ line := ⟨by omega, by omega, Nat.le_trans (by simpa using hl) (by decide)⟩
  simp only [binD, h]
  rw [if_pos h2]
  rfl
inductive All2 {α β : Type} (R : α → β → Prop) : List α → List β → Prop
  | nil : All2 R [] []
  | cons {a : α} {b : β} {xs : List α} {ys : List β} (h : R a b) (t : All2 R xs ys) : All2 R (a :: xs) (b :: ys)
theorem all2_mono {α β : Type} {R R' : α → β → Prop} (h : ∀ a b, R a b → R' a b) {xs : List α} {ys : List β} (k : All2 R xs ys) : All2 R' xs ys := by
  induction k with
  | nil => exact .nil
  | cons a _ ih => exact .cons (h _ _ a) ih
theorem slc63 {S : Sto} {xs : List D} : slcD (.frl xs) none (some 63) S = some (.ref S.length, S ++ [.lst (xs.take 63)]) := by
  show new (.lst (cutL xs none (some ((63 : Nat) : Int)))) S = _
  rw [cutL_hi]
  rfl
def enumL (k : Nat) (ds : List D) : List D := (ds.zipIdx k).map fun (x, k) => D.tup [.int k, x]
theorem it_enumL {S : Sto} {n : Nat} {ds : List D} (h : S[n]? = some (.lst ds)) : itD .enum [.ref n] S = some (enumL 0 ds, [n]) := by
  simp only [itD, lstR, h, Option.map_some]
  rfl
theorem short_len {p : PyData} (h : p.leavesShort 100 = true) (hb : p.bulk ≤ 150000) : (PyData.shown p).length ≤ line := by
  have h1 := PyData.shown_le_bulk 100 (by decide) p h
  have h2 : (100 + 2) * p.bulk + 100 ≤ (100 + 2) * 150000 + 100 := Nat.add_le_add_right (Nat.mul_le_mul_left _ hb) _
  exact Nat.le_trans (Nat.le_trans h1 h2) (by decide)
/-- a value without anything of the store, of such a depth, so great -/
def Sh (d : D) (dep b : Nat) : Prop := ∃ p, (∀ S k, dep ≤ k → rdP k S d = some p) ∧ noD p = true ∧ p.showable = true ∧ p.leavesShort 100 = true ∧ p.bulk ≤ b
def Shs (xs : List D) (dep b : Nat) : Prop := ∃ ps, (∀ S k, dep ≤ k → optMap (rdP k S) xs = some ps) ∧ noDs ps = true ∧ PyData.showableAll ps = true ∧ PyData.leavesShortAll 100 ps = true ∧ PyData.bulkAll ps ≤ b
theorem Sh.repr {d : D} {dep b : Nat} (h : Sh d dep b) (hd : dep ≤ 60) (hb : b ≤ 150000) : ∃ r, ∀ S, reprD d S = some r := by
  obtain ⟨p, h1, h2, h3, h4, h5⟩ := h
  refine ⟨PyData.shown p, fun S => ?_⟩
  unfold reprD
  rw [h1 S 60 hd]
  simp only
  rw [if_pos ⟨by unfold repOk; rw [h2]; rfl, h3, short_len h4 (Nat.le_trans h5 hb)⟩]
theorem Shs.nil {dep : Nat} : Shs [] dep 0 := ⟨[], fun _ _ _ => rfl, rfl, rfl, rfl, by simp [PyData.bulkAll]⟩
theorem Sh.mono {d : D} {dep b dep' b' : Nat} (h : Sh d dep b) (h1 : dep ≤ dep') (h2 : b ≤ b') : Sh d dep' b' := by
  obtain ⟨p, q1, q2, q3, q4, q5⟩ := h
  exact ⟨p, fun S k hk => q1 S k (Nat.le_trans h1 hk), q2, q3, q4, Nat.le_trans q5 h2⟩
theorem Shs.cons {x : D} {xs : List D} {dep b c : Nat} (h : Sh x dep b) (t : Shs xs dep c) : Shs (x :: xs) dep (b + c + 1) := by
  obtain ⟨p, q1, q2, q3, q4, q5⟩ := h
  obtain ⟨ps, r1, r2, r3, r4, r5⟩ := t
  refine ⟨p :: ps, fun S k hk => om_cons (q1 S k hk) (r1 S k hk), ?_, ?_, ?_, ?_⟩
  · show (noD p && noDs ps) = true
    rw [q2, r2]; rfl
  · show (p.showable && PyData.showableAll ps) = true
    rw [q3, r3]; rfl
  · show (PyData.leavesShort 100 p && PyData.leavesShortAll 100 ps) = true
    rw [q4, r4]; rfl
  · simp only [PyData.bulkAll]
    omega
theorem Sh.tup {xs : List D} {dep b : Nat} (h : Shs xs dep b) : Sh (.tup xs) (dep + 1) (b + 1) := by
  obtain ⟨ps, r1, r2, r3, r4, r5⟩ := h
  refine ⟨.tuple ps, fun S k hk => ?_, r2, r3, r4, ?_⟩
  · obtain ⟨j, rfl⟩ : ∃ j, k = j + 1 := ⟨k - 1, by omega⟩
    show (optMap (rdP j S) xs).map PyData.tuple = _
    rw [r1 S j (by omega)]
    rfl
  · simp only [PyData.bulk]
    omega
theorem Shs.all {dep b : Nat} : ∀ {xs : List D}, (∀ x ∈ xs, Sh x dep b) → Shs xs dep (xs.length * (b + 1))
  | [], _ => by simpa using Shs.nil
  | x :: xs, h => by
    have := Shs.cons (h x List.mem_cons_self) (Shs.all fun y hy => h y (List.mem_cons_of_mem _ hy))
    rw [List.length_cons, Nat.succ_mul]
    obtain ⟨ps, r1, r2, r3, r4, r5⟩ := this
    exact ⟨ps, r1, r2, r3, r4, by omega⟩
theorem Sh.non : Sh .non 1 1 := ⟨.none, fun S k hk => by
  obtain ⟨j, rfl⟩ : ∃ j, k = j + 1 := ⟨k - 1, by omega⟩
  rfl, rfl, rfl, rfl, by simp [PyData.bulk]⟩
theorem Sh.str {x : Str} (h : x.cps.toList.all (fun c => decide (c < 16 ^ 8)) = true) {b : Nat} (hb : x.cps.size ≤ b) : Sh (.str x) 1 b :=
  ⟨.str x, fun S k hk => by
    obtain ⟨j, rfl⟩ : ∃ j, k = j + 1 := ⟨k - 1, by omega⟩
    rfl, rfl, rfl, by simpa [PyData.leavesShort] using h, by simp only [PyData.bulk]; exact hb⟩
theorem rd_lst {S : Sto} {m k : Nat} {xs : List D} {ps : List PyData} (hm : S[m]? = some (.lst xs)) (h : optMap (rdP k S) xs = some ps) : rdP (k + 1) S (.ref m) = some (.list ps) := by
  rw [rdP]
  simp only [hm, h, Option.map_some]
theorem lst_repr {xs : List D} {dep b : Nat} (h : Shs xs dep b) (hd : dep ≤ 59) (hb : b ≤ 149999) : ∃ r, ∀ (S : Sto) (m : Nat), S[m]? = some (.lst xs) → reprD (.ref m) S = some r := by
  obtain ⟨ps, r1, r2, r3, r4, r5⟩ := h
  refine ⟨PyData.shown (.list ps), fun S m hm => ?_⟩
  have e : rdP 60 S (.ref m) = some (.list ps) := rd_lst hm (r1 S 59 hd)
  unfold reprD
  rw [e]
  simp only
  rw [if_pos ⟨by unfold repOk; rw [show noD (.list ps) = noDs ps from rfl, r2]; rfl, r3, short_len (p := .list ps) r4 (by simp only [PyData.bulk]; omega)⟩]
theorem Sh.intz {i : Int} (h0 : -1000000 < i) (h1 : i < 1000000) : Sh (.int i) 1 1 := by
  have hl : i.natAbs.log2 ≤ 19 := by
    have : i.natAbs < 2 ^ 20 := by omega
    by_cases hz : i.natAbs = 0
    · rw [hz]; decide
    · have := (Nat.log2_lt hz).mpr this
      omega
  refine ⟨.int i, fun S k hk => ?_, rfl, ?_, ?_, by simp [PyData.bulk]⟩
  · obtain ⟨j, rfl⟩ : ∃ j, k = j + 1 := ⟨k - 1, by omega⟩
    rfl
  · show decide (i.natAbs.log2 < 1920) = true
    rw [decide_eq_true_eq]
    omega
  · show decide ((toString i : Str).length ≤ 100) = true
    rw [decide_eq_true_eq]
    have h2 := int_text_length_le (a := i) (k := 20) (by decide) (by omega)
    have h3 : (toString i : Str).length = (toString i : String).length := PySem.ofString_length _
    rw [h3]
    omega
theorem sg_sh {w : List Nat} (hw : ∀ c ∈ w, c < 16 ^ 8) {b : Nat} (hl : w.length ≤ b) : Sh (.str (sg w)) 1 b := by
  refine Sh.str ?_ (by show (w.toArray).size ≤ b; simpa using hl)
  rw [sg_tl, List.all_eq_true]
  exact fun c hc => decide_eq_true (hw c hc)
theorem az_small : ∀ c ∈ AZ, c < 16 ^ 8 := by decide +kernel
theorem Frm.froz {S : Sto} {n : Nat} : Frm [n] S (PC.froz S n) := ⟨by rw [froz_len]; exact Nat.le_refl _, fun m _ h => froz_other (by simpa using h)⟩
theorem Frm.thaw {S0 S : Sto} {n : Nat} : Frm [n] S (PC.thaw S0 S n) := ⟨by rw [thaw_len]; exact Nat.le_refl _, fun m _ h => thaw_other (by simpa using h)⟩
end K05
end
section
set_option Elab.async false
set_option linter.all false
set_option maxRecDepth 100000
set_option maxHeartbeats 1000000
namespace K05
open PySem PC
theorem deck_w {L : Nat} {xs : List Int} {S : Sto} {Q : D → Sto → Prop} (hl : xs.length ≤ 63) (k : ∀ n c S', Dk n c S' → Frm [] S S' → S.length ≤ n → S.length ≤ c → Q (.ref n) S') : WF (CC (L + 1)) 0 [.frl (xs.map .int)] S Q := by
  rw [wf_def (F := ⟨1, 4, c0⟩) rfl rfl]
  show WB (CC L) c0 [some (.frl (xs.map .int)), none, none, none] S _
  have et : (xs.map D.int).take 63 = xs.map .int := List.take_of_length_le (by rw [List.length_map]; exact hl)
  have g1 : (S ++ [Ob.lst (xs.map .int)])[S.length]? = _ := at_new
  simp only [c0]
  repeat (first | walk_at "pw" | simp only [slc63, et, it_lst g1])
  refine ⟨by rw [List.length_map]; exact Nat.le_trans hl (by decide), ?_⟩
  have g2 : ((S ++ [Ob.lst (xs.map .int)]) ++ [Ob.lst (xs.map .int)])[(S ++ [Ob.lst (xs.map .int)]).length]? = _ := at_new
  have f2 : Frm [] S ((S ++ [Ob.lst (xs.map .int)]) ++ [Ob.lst (xs.map .int)]) := (Frm.app _).trans (.app _)
  have l2 : S.length ≤ (S ++ [Ob.lst (xs.map .int)]).length := by simp
  repeat (first | walk_at "pw")
  generalize (S ++ [Ob.lst (xs.map .int)]).length = m at *
  generalize (S ++ [Ob.lst (xs.map .int)]) ++ [Ob.lst (xs.map .int)] = T at *
  simp only [c0_1]
  repeat (first | walk_at "pw" | simp only [w1_for])
  refine for_w (it_lst g2) (fun ys e1 S1 => ∃ (rs : List Int) (sd : Int) (a : Option D), ys = rs.map .int ∧ e1 = [some (.frl (xs.map .int)), some (.ref m), some (.int sd), a] ∧ S1 = PC.froz T m) ⟨xs, 8191, none, rfl, rfl, rfl⟩ ?_ ?_
  · rintro x ys e1 S1 ⟨rs, sd, a, h1, rfl, rfl⟩
    cases rs with
    | nil => cases h1
    | cons r rs =>
      rw [List.map_cons] at h1
      injection h1 with h1 h1'
      subst h1 h1'
      refine ⟨_, rfl, ?_⟩
      have m1 : mulOk sd 16807 = true := mulOk_r (by decide)
      have p1 : (0 : Int) < 2147483563 := by decide
      have p2 : (0 : Int) < 2147483647 := by decide
      simp only [c0b0]
      repeat (first | walk_at "pw" | simp only [bin_mul_i m1, bin_mod_i p1, bin_mod_i p2])
      exact ⟨rs, _, _, rfl, rfl⟩
  · rintro e1 S1 ⟨rs, sd, a, h1, rfl, rfl⟩
    simp only [List.foldl_cons, List.foldl_nil]
    rw [thaw_froz g2]
    simp only [wk_nx, c0_2]
    have hr : lstD (.ref m) T = some (xs.map .int) := by simp only [lstD, g2]
    repeat (first | walk_at "pw" | simp only [hr])
    have lm := lt_of g2
    refine k _ T.length _ ⟨by simp, xs.reverse, sd, 0, at_new, ?_, by rw [List.length_reverse]; exact hl⟩ ((f2.trans (.app _)).trans (.app _)) (by simp; omega) (by omega)
    rw [List.map_reverse]
    exact at_app at_new
/-- a draw -/
theorem draw_w {L n c : Nat} {S : Sto} {ways : Int} {Q : D → Sto → Prop} (d : Dk n c S) (hw : 0 < ways) (hw2 : ways < 1073741824)
    (k : ∀ (r : Nat) S', (r : Int) < ways → Dk n c S' → Frm [n, c] S S' → Q (.int r) S') : WF (CC (L + 1)) 1 [.ref n, .int ways] S Q := by
  obtain ⟨cells, seed, cnt, h1, h2, hl⟩ := d.at_
  have ln := d.lt.1
  have lc := d.lt.2
  have ne := d.ne
  have ret : ∀ (z : Int) S', Dk n c S' → Frm [n, c] S S' → Q (.int (z % ways)) S' := fun z S' d' f' => by
    have p1 : 0 ≤ z % ways := Int.emod_nonneg _ (by omega)
    have p2 : z % ways < ways := Int.emod_lt_of_pos _ hw
    have := k (z % ways).toNat S' (by omega) d' f'
    rwa [Int.toNat_of_nonneg p1] at this
  rw [wf_def (F := ⟨2, 4, c1⟩) rfl rfl]
  show WB (CC L) c1 [some (.ref n), some (.int ways), none, none] S _
  let S1 : Sto := S.set n (.lst [.ref c, .int seed, .int (cnt + 1)])
  have s1n : S1[n]? = some (.lst [.ref c, .int seed, .int (cnt + 1)]) := at_own h1
  have s1c : S1[c]? = some (.lst (cells.map .int)) := at_set h2 ne
  have st : ∀ a : D, setD (.ref n) (.int 2) a S = some (S.set n (.lst [.ref c, .int seed, a])) := fun a => set_lst (k := 2) h1 (by simp)
  have f1 : Frm [n, c] S S1 := .set (by simp)
  -- the end
  have fin : ∀ (T : Sto) (cs' : List Int) (z : Int), T[n]? = some (.lst [.ref c, .int seed, .int (cnt + 1)]) → T[c]? = some (.lst (cs'.map .int)) → cs'.length ≤ 63 → Frm [n, c] S T → WB (CC L) c1_3 [some (.ref n), some (.int ways), some (.int z), none] T fun fl _ S' => endQ Q fl S' := fun T cs' z t1 t2 t3 t4 => by
    have m1 : ∀ z : Int, mulOk z 69621 = true := fun z => mulOk_r (by decide)
    have m2 : ∀ z : Int, mulOk (z % 2147483587) (z % 2147483587) = true := fun z => mulOk_r (by constructor <;> omega)
    have m3 : ∀ z : Int, mulOk 40961 z = true := fun z => mulOk_l (by decide)
    have m4 : ∀ z : Int, mulOk 48271 z = true := fun z => mulOk_l (by decide)
    have m5 : ∀ z : Int, mulOk 16807 z = true := fun z => mulOk_l (by decide)
    have m6 : ∀ z : Int, mulOk (z % 2147483647) (z % 2147483647) = true := fun z => mulOk_r (by constructor <;> omega)
    have p1 : (0 : Int) < 2147483587 := by decide
    have p2 : (0 : Int) < 2147483647 := by decide
    have p3 : (0 : Int) < 2147483629 := by decide
    have p4 : (0 : Int) < 2147483549 := by decide
    have p5 : (0 : Int) < 32 ∧ (32 : Int) < 1073741824 := by decide
    simp only [c1_3, c1_4, c1_5]
    repeat (first | walk_at "pw" | simp only [bin_mod_i p1, bin_mod_i p2, bin_mod_i p3, bin_mod_i p4, bin_mod_i hw, bin_div_i p5, bin_mul_i (m1 _), bin_mul_i (m2 _), bin_mul_i (m3 _), bin_mul_i (m4 _), bin_mul_i (m5 _), bin_mul_i (m6 _), idx_lst t1])
    exact ret _ _ ⟨ne, cs', _, _, t1, t2, t3⟩ t4
  simp only [c1]
  repeat (first | walk_at "pw" | simp only [idx_lst h1, st])
  show WB (CC L) c1_1 _ S1 _
  have d1 : Dk n c S1 := ⟨ne, cells, seed, _, s1n, s1c, hl⟩
  simp only [c1_1]
  repeat (first | walk_at "pw" | simp only [idx_lst s1n])
  simp only [c1_2]
  have hm3 : (S1 ++ [Ob.lst []])[S1.length]? = some (.lst []) := at_new
  have s3n : (S1 ++ [Ob.lst []])[n]? = _ := at_app s1n
  have s3c : (S1 ++ [Ob.lst []])[c]? = _ := at_app s1c
  have e3 := (eq_nil s3c hm3).2
  have f3 : Frm [n, c] S (S1 ++ [Ob.lst []]) := f1.trans (.app _)
  repeat (first | walk_at "pw" | simp only [idx_lst s1n])
  rw [e3]
  generalize S1 ++ [Ob.lst []] = S3 at *
  rcases List.eq_nil_or_concat cells with rfl | ⟨xs, x, rfl⟩
  · simp only [List.map_nil, List.isEmpty_nil]
    walk_at "pw"
    exact fin S3 [] _ s3n s3c (by simp) f3
  · have en : ((xs ++ [x]).map D.int) = xs.map .int ++ [.int x] := by rw [List.map_append]; rfl
    rw [List.concat_eq_append] at s3c hl ⊢
    rw [en] at s3c ⊢
    have hl' : xs.length ≤ 62 := by simp at hl; omega
    have e0 : (xs.map D.int ++ [D.int x]).isEmpty = false := by simp
    rw [e0]
    have mk : metK (.ref c) S3 = true := metK_lst s3c
    have mp := met_pop s3c
    have q1 : (S3.set c (.lst (xs.map .int)))[n]? = _ := at_set s3n (Ne.symm ne)
    have q2 : (S3.set c (.lst (xs.map .int)))[c]? = _ := at_own s3c
    have fs : Frm [n, c] S (S3.set c (.lst (xs.map .int))) := f3.trans (.set (by simp))
    repeat (first | walk_at "pw" | simp only [idx_lst s3n, mk, mp])
    generalize S3.set c (.lst (xs.map .int)) = S4 at *
    by_cases hx : (1000000000000000000 : Int) ≤ x
    · simp only [decide_eq_true hx]
      have pd : (0 : Int) < ways ∧ ways < 1073741824 := ⟨hw, hw2⟩
      have mk4 : metK (.ref c) S4 = true := metK_lst q2
      have ma := fun a : D => met_app (d := a) q2 (by rw [List.length_map]; exact Nat.lt_of_le_of_lt hl' (by decide))
      repeat (first | walk_at "pw" | simp only [idx_lst q1, bin_mod_i hw, bin_div_i pd, mk4, ma])
      exact ret _ _ ⟨ne, xs ++ [x / ways], seed, _, at_set q1 (Ne.symm ne), by rw [List.map_append]; exact at_own q2, by simp; omega⟩ (fs.trans (.set (by simp)))
    · simp only [decide_eq_false hx]
      repeat (first | walk_at "pw" | simp only [idx_lst q1])
      exact fin _ xs _ q1 q2 (by omega) fs
end K05
end
section
set_option Elab.async false
set_option linter.all false
set_option maxRecDepth 100000
set_option maxHeartbeats 2000000
namespace K05
open PySem PC
/-- one of some -/
theorem pick_w {L n c m : Nat} {S : Sto} {xs : List D} {Q : D → Sto → Prop} (d : Dk n c S) (hm : S[m]? = some (.lst xs)) (hn : m ≠ n) (hc : m ≠ c) (h0 : xs ≠ []) (hl : xs.length < 1073741824)
    (k : ∀ x ∈ xs, ∀ S', Dk n c S' → Frm [n, c] S S' → Q x S') : WF (CC (L + 2)) 2 [.ref n, .ref m] S Q := by
  rw [wf_def (F := ⟨2, 2, c2⟩) rfl rfl]
  show WB (CC (L + 1)) c2 [some (.ref n), some (.ref m)] S _
  have hp : 0 < xs.length := List.length_pos_iff.mpr h0
  simp only [c2]
  repeat (first | walk_at "pw" | simp only [len_lst hm])
  refine draw_w d (by omega) (by omega) fun r S' hr d' f' => ?_
  have hm' := f'.at_ hm (by simp [hn, hc])
  have hr' : r < xs.length := by omega
  have hx : xs[r]? = some xs[r] := List.getElem?_eq_getElem hr'
  simp only [idx_lst hm', L2.atI_nat hx]
  walk_at "pw"
  exact k _ (List.getElem_mem hr') S' d' f'
/-- what may be handed to a refusal -/
def Th (x : D) : Prop := ∃ (w : List Nat) (i : Int), w.length ≤ 8 ∧ (∀ c ∈ w, c ∈ AZ) ∧ -50 ≤ i ∧ i < 50 ∧ x ∈ ([.str (sg w), .int i, .tup [.str (sg w), .int i], .non, .tup [], .str (sg (w ++ [32] ++ w))] : List D)
theorem len_sg {S : Sto} {l : List Nat} (h : l.length ≤ 1000) : lenD (.str (sg l)) S = some (l.length : Int) := by
  show (if (sg l).length ≤ line then some ((sg l).length : Int) else none) = _
  rw [sg_len, if_pos (Nat.le_trans h (by decide))]
theorem pickAz_w {L n c : Nat} {S : Sto} {Q : D → Sto → Prop} (d : Dk n c S) (k : ∀ x ∈ AZ, ∀ S', Dk n c S' → Frm [n, c] S S' → Q (.str (sg [x])) S') : WF (CC (L + 2)) 2 [.ref n, .str (sg AZ)] S Q := by
  rw [wf_def (F := ⟨2, 2, c2⟩) rfl rfl]
  show WB (CC (L + 1)) c2 [some (.ref n), some (.str (sg AZ))] S _
  simp only [c2]
  have hl : lenD (.str (sg AZ)) S = some (26 : Int) := len_sg (l := AZ) (by decide)
  repeat (first | walk_at "pw" | simp only [hl])
  refine draw_w d (by decide) (by decide) fun r S' hr d' f' => ?_
  have hr' : r < AZ.length := by simp; omega
  rw [idx_sg hr']
  walk_at "pwt"
  exact k _ (List.getElem_mem hr') S' d' f'
theorem sp_sg : (" " : Str) = sg [32] := by decide +kernel
theorem thing_w {L n c : Nat} {S : Sto} {Q : D → Sto → Prop} (d : Dk n c S) (k : ∀ x S', Th x → Dk n c S' → Frm [n, c] S S' → Q x S') : WF (CC (L + 3)) 3 [.ref n] S Q := by
  rw [wf_def (F := ⟨1, 4, c3⟩) rfl rfl]
  show WB (CC (L + 2)) c3 [some (.ref n), none, none, none] S _
  simp only [c3, AZ_eq]
  repeat (first | walk_at "pw" | simp only [we_lc])
  refine draw_w (L := L + 1) d (by decide) (by decide) fun m S1 hm d1 f1 => ?_
  walk_at "pwt"
  refine lc_w (it_rng (k := m) (by omega)) (fun xs ys S2 => ∃ cs : List Nat, ys = cs.map (fun c => .str (sg [c])) ∧ cs.length + xs.length = m ∧ (∀ x ∈ cs, x ∈ AZ) ∧ Dk n c S2 ∧ Frm [n, c] S1 S2) ⟨[], rfl, by simp, by simp, d1, .refl⟩ (fun x xs ys S2 ⟨cs, h1, h2, h3, h4, h5⟩ => ⟨_, rfl, wts_nil.mpr ?_⟩) (fun ys S2 ⟨cs, h1, h2, h3, h4, h5⟩ => ?_)
  · rw [if_pos rfl]
    show WE _ _ _ _ _
    walk_at "pw"
    refine pickAz_w (L := L) h4 fun y hy S3 dd ff => ?_
    walk_at "pwt"
    refine ⟨cs ++ [y], by rw [h1]; simp, by rw [List.length_append, List.length_singleton]; rw [List.length_cons] at h2; omega, fun x hx => ?_, dd, h5.trans ff⟩
    rcases List.mem_append.mp hx with hx | hx
    · exact h3 x hx
    · rw [List.mem_singleton.mp hx]; exact hy
  subst h1
  simp only [List.length_nil, Nat.add_zero] at h2
  simp only [List.foldl_nil]
  refine ⟨by rw [List.length_map, h2]; exact Nat.lt_trans (show m < 9 by omega) (by decide), ?_⟩
  rw [met_join at_new (by omega)]
  walk_at "pw"
  have f2 : Frm [n, c] S (S2 ++ [Ob.lst (cs.map fun c => D.str (sg [c]))]) := (f1.trans h5).trans (.app _)
  have d2 := h4.app (T := [Ob.lst (cs.map fun c => D.str (sg [c]))])
  generalize S2 ++ [Ob.lst (cs.map fun c => D.str (sg [c]))] = T at *
  simp only [c3_1]
  repeat (first | walk_at "pw")
  refine draw_w (L := L + 1) d2 (by decide) (by decide) fun j S3 hj d3 f3 => ?_
  walk_at "pwt"
  simp only [c3_2, sp_sg]
  have a1 : ∀ S, binD .Add (.str (sg cs)) (.str (sg [32])) S = some (.str (sg (cs ++ [32])), S) := fun S => add_sg (by simp; omega)
  have a2 : ∀ S, binD .Add (.str (sg (cs ++ [32]))) (.str (sg cs)) S = some (.str (sg (cs ++ [32] ++ cs)), S) := fun S => add_sg (by simp; omega)
  repeat (first | walk_at "pw" | simp only [a1, a2])
  have g1 : (S3 ++ [Ob.lst [.str (sg cs), .int ((j : Int) - 50), .tup [.str (sg cs), .int ((j : Int) - 50)], .non, .tup [], .str (sg (cs ++ [32] ++ cs))]])[S3.length]? = _ := at_new
  have l3 := d3.lt
  refine pick_w (L := L) (d3.app (T := [Ob.lst _])) g1 (by omega) (by omega) (by simp) (by simp) fun x hx S4 d4 f4 => ?_
  exact k x S4 ⟨cs, (j : Int) - 50, by omega, h3, by omega, by omega, hx⟩ d4 (((f2.trans f3).trans (.app _)).trans f4)
theorem Th.sh {x : D} (h : Th x) : Sh x 2 30 := by
  obtain ⟨w, i, h1, h2, h3, h4, hx⟩ := h
  have hw : ∀ c ∈ w, c < 16 ^ 8 := fun c hc => az_small c (h2 c hc)
  simp only [List.mem_cons, List.not_mem_nil, or_false] at hx
  rcases hx with rfl | rfl | rfl | rfl | rfl | rfl
  · exact (sg_sh hw (b := 8) h1).mono (by decide) (by decide)
  · exact (Sh.intz (by omega) (by omega)).mono (by decide) (by decide)
  · exact (Sh.tup (dep := 1) (b := 11) (Shs.cons (b := 8) (c := 2) (sg_sh hw h1) (Shs.cons (b := 1) (c := 0) (Sh.intz (by omega) (by omega)) .nil))).mono (by decide) (by decide)
  · exact Sh.non.mono (by decide) (by decide)
  · exact (Sh.tup (dep := 1) (b := 0) .nil).mono (by decide) (by decide)
  · refine (sg_sh (w := w ++ [32] ++ w) (b := 17) (fun c hc => ?_) (by simp; omega)).mono (by decide) (by decide)
    simp only [List.mem_append, List.mem_singleton] at hc
    rcases hc with (hc | rfl) | hc
    · exact hw c hc
    · decide
    · exact hw c hc
theorem Th.il {x : D} (h : Th x) : isLam x = false := by
  obtain ⟨w, i, h1, h2, h3, h4, hx⟩ := h
  simp only [List.mem_cons, List.not_mem_nil, or_false] at hx
  rcases hx with rfl | rfl | rfl | rfl | rfl | rfl <;> rfl
end K05
end
section
set_option Elab.async false
set_option linter.all false
set_option maxRecDepth 100000
set_option maxHeartbeats 2000000
namespace K05
open PySem PC
/-- an exception of the class a -/
def Ex (y : D) (a : Nat) : Prop := y = .exn a ∨ ∃ f x, y = .exc a f x
theorem Ex.il {y : D} {a : Nat} (h : Ex y a) : isLam y = false := by
  rcases h with rfl | ⟨f, x, rfl⟩ <;> rfl
theorem Ex.isx {y : D} {a : Nat} (h : Ex y a) {cs : List Nat} {Q : D → Sto → Prop} {S : Sto} : isxQ cs Q y S ↔ Q (.bl (decide (a ∈ cs))) S := by
  rcases h with rfl | ⟨f, x, rfl⟩ <;> exact Iff.rfl
def bsL (a : Nat) : List D := (List.range 12).map fun j => .bl (decide (a ∈ [j]))
def kU (a i : Nat) : List Int := ((List.range i).filter fun j => decide (a ∈ [j])).map fun j => (j : Nat)
theorem kU_step {a i : Nat} : kU a (i + 1) = if decide (a ∈ [i]) = true then kU a i ++ [(i : Int)] else kU a i := by
  unfold kU
  rw [List.range_succ, List.filter_append]
  by_cases h : decide (a ∈ [i]) = true
  · rw [if_pos h, show List.filter (fun j => decide (a ∈ [j])) [i] = [i] from by rw [List.filter_cons, if_pos h, List.filter_nil], List.map_append]
    rfl
  · rw [if_neg h, show List.filter (fun j => decide (a ∈ [j])) [i] = [] from by rw [List.filter_cons, if_neg h, List.filter_nil], List.append_nil]
theorem kU_len {a i : Nat} : (kU a i).length ≤ i := by
  unfold kU
  rw [List.length_map]
  refine Nat.le_trans (List.length_filter_le _ _) ?_
  rw [List.length_range]
  exact Nat.le_refl _
theorem bs_at {a i : Nat} (h : i < 12) : (enumL 0 (bsL a))[i]? = some (.tup [.int i, .bl (decide (a ∈ [i]))]) := by
  unfold enumL bsL
  rw [List.getElem?_map, List.getElem?_zipIdx, List.getElem?_map, List.getElem?_range h]
  simp
theorem bs_len {a : Nat} : (enumL 0 (bsL a)).length = 12 := by simp [enumL, bsL]
theorem bs_drop {a i : Nat} (h : i < 12) : (enumL 0 (bsL a)).drop i = .tup [.int i, .bl (decide (a ∈ [i]))] :: (enumL 0 (bsL a)).drop (i + 1) := by
  rw [List.drop_eq_getElem_cons (by rw [bs_len]; exact h)]
  congr 1
  have := bs_at (a := a) h
  rw [List.getElem?_eq_getElem (by rw [bs_len]; exact h)] at this
  exact Option.some.inj this
theorem kinds_tail {L a : Nat} {y : D} {S X : Sto} {Q : D → Sto → Prop} (hy : Ex y a) (fx : Frm [] S X) (k : ∀ m S', S'[m]? = some (.lst ((kU a 12).map .int)) → S.length ≤ m → Frm [] S S' → Q (.ref m) S') :
    WB (CC L) c4_4 [some y, some (.ref X.length), none, none] (X ++ [Ob.lst (bsL a)]) fun fl _ S' => endQ Q fl S' := by
  have il := hy.il
  have g : (X ++ [Ob.lst (bsL a)])[X.length]? = some (.lst (bsL a)) := at_new
  have f : Frm [] S (X ++ [Ob.lst (bsL a)]) := fx.trans (.app _)
  have lm : S.length ≤ X.length := fx.le
  generalize X ++ [Ob.lst (bsL a)] = T at *
  generalize X.length = m at *
  simp only [c4_4]
  repeat (first | walk_at "pw" | simp only [we_lc])
  refine lc_w (it_enumL g) (fun xs ys S1 => ∃ i, i ≤ 12 ∧ xs = (enumL 0 (bsL a)).drop i ∧ ys = (kU a i).map .int ∧ S1 = froz T m) ⟨0, by decide, rfl, rfl, rfl⟩ ?_ ?_
  · rintro x xs ys S1 ⟨i, hi, r1, rfl, rfl⟩
    by_cases h : i < 12
    · rw [bs_drop h] at r1
      injection r1 with r1 r2
      subst r1 r2
      refine ⟨_, rfl, wts_cons.mpr ?_⟩
      have hs := kU_step (a := a) (i := i)
      show WE _ (.var 3) [some y, some (.ref m), some (.int i), some (.bl (decide (a ∈ [i])))] _ _
      repeat (first | walk_at "pw")
      by_cases hb : decide (a ∈ [i]) = true
      · rw [hb] at hs ⊢
        rw [if_pos rfl] at hs ⊢
        refine wts_nil.mpr ?_
        rw [if_pos rfl]
        show WE _ (.var 2) [some y, some (.ref m), some (.int i), some (.bl true)] _ _
        repeat (first | walk_at "pw")
        exact ⟨i + 1, h, rfl, by rw [hs, List.map_append]; rfl⟩
      · rw [Bool.not_eq_true] at hb
        rw [hb] at hs ⊢
        rw [if_neg (by decide)] at hs
        first
          | exact ⟨i + 1, h, rfl, by rw [hs]⟩
          | exact ⟨i + 1, h, rfl, by rw [hs], rfl⟩
    · rw [List.drop_eq_nil_of_le (by rw [bs_len]; omega)] at r1
      cases r1
  · rintro ys S1 ⟨i, hi, r1, rfl, rfl⟩
    have e : i = 12 := by
      by_cases h : i < 12
      · rw [bs_drop h] at r1
        cases r1
      · omega
    subst e
    simp only [List.foldl_cons, List.foldl_nil]
    rw [thaw_froz g]
    refine ⟨by rw [List.length_map]; exact Nat.lt_of_le_of_lt kU_len (by decide), ?_⟩
    exact k _ _ at_new (by have := lt_of g; omega) (f.trans (.app _))
theorem kinds_w {L a : Nat} {y : D} {S : Sto} {Q : D → Sto → Prop} (hy : Ex y a) (k : ∀ m S', S'[m]? = some (.lst ((kU a 12).map .int)) → S.length ≤ m → Frm [] S S' → Q (.ref m) S') : WF (CC (L + 1)) 4 [y] S Q := by
  have il := hy.il
  rw [wf_def (F := ⟨1, 4, c4⟩) rfl rfl]
  show WB (CC L) c4 [some y, none, none, none] S _
  simp only [c4]
  repeat (first | walk_at "pw" | simp only [il, hy.isx])
  simp only [c4_1]
  repeat (first | walk_at "pw" | simp only [il, hy.isx])
  rw [add_lst (at_app at_new) at_new (by simp)]
  repeat (first | walk_at "pw" | simp only [il, hy.isx])
  simp only [c4_2]
  repeat (first | walk_at "pw" | simp only [il, hy.isx])
  rw [add_lst (at_app at_new) at_new (by simp)]
  repeat (first | walk_at "pw" | simp only [il, hy.isx])
  simp only [c4_3]
  repeat (first | walk_at "pw" | simp only [il, hy.isx])
  rw [add_lst (at_app at_new) at_new (by simp)]
  repeat (first | walk_at "pw" | simp only [il, hy.isx])
  refine kinds_tail (a := a) hy ?_ k
  simp only [List.append_assoc]
  exact .app _
end K05
end
section
set_option Elab.async false
set_option linter.all false
set_option maxRecDepth 100000
set_option maxHeartbeats 2000000
namespace K05
open PySem PC
/-! ### what is beside what -/
mutual
theorem eqv_self : ∀ p : PyData, noD p = true → p.eqv p = true
  | .none, _ => rfl
  | .bool b, _ => by simp [PyData.eqv]
  | .int i, _ => by simp [PyData.eqv]
  | .str x, _ => by simp [PyData.eqv]
  | .list xs, h => by
    rw [PyData.eqv]
    exact eqvs_self xs h
  | .tuple xs, h => by
    rw [PyData.eqv]
    exact eqvs_self xs h
  | .dict _, h => nomatch h
theorem eqvs_self : ∀ ps : List PyData, noDs ps = true → PyData.eqvAll ps ps = true
  | [], _ => rfl
  | p :: r, h => by
    obtain ⟨h1, h2⟩ := Bool.and_eq_true_iff.mp (show (noD p && noDs r) = true from h)
    rw [PyData.eqvAll, eqv_self p h1, eqvs_self r h2]
    rfl
end
theorem rdQ_of {S : Sto} {d : D} {p : PyData} (h : rdP 60 S d = some p) (hn : noD p = true) : rdQ S d = some p := by
  unfold rdQ
  rw [h]
  simp only
  rw [if_pos hn]
theorem ne_of {S : Sto} {a b : D} {p : PyData} (h : rdP 60 S a = some p) (h' : rdP 60 S b = some p) (hn : noD p = true) : cmpD .NotEq a b S = some false := by
  show (eqD a b S).map (!·) = _
  unfold eqD
  rw [rdQ_of h hn, rdQ_of h' hn]
  simp only [Option.map_some]
  rw [eqv_self p hn]
  rfl
def lfP : D → PyData
  | .int i => .int i
  | .bl b => .bool b
  | .str x => .str x
  | _ => .none
def isLf : D → Bool
  | .int _ => true
  | .bl _ => true
  | .str _ => true
  | _ => false
theorem rd_lf {S : Sto} {k : Nat} {d : D} (h : isLf d = true) : rdP (k + 1) S d = some (lfP d) := by
  cases d <;> first
    | rfl
    | cases h
theorem noD_lf {d : D} (h : isLf d = true) : noD (lfP d) = true := by
  cases d <;> first
    | rfl
    | cases h
theorem rd_lfs {S : Sto} {k : Nat} : ∀ ds : List D, ds.all isLf = true → optMap (rdP (k + 1) S) ds = some (ds.map lfP)
  | [], _ => rfl
  | d :: r, h => by
    rw [List.all_cons, Bool.and_eq_true] at h
    exact om_cons (rd_lf h.1) (rd_lfs r h.2)
theorem noD_lfs : ∀ ds : List D, ds.all isLf = true → noDs (ds.map lfP) = true
  | [], _ => rfl
  | d :: r, h => by
    rw [List.all_cons, Bool.and_eq_true] at h
    show (noD (lfP d) && noDs (r.map lfP)) = true
    rw [noD_lf h.1, noD_lfs r h.2]
    rfl
/-- a list of lists -/
def LL (S : Sto) (m : Nat) (dss : List (List D)) : Prop := ∃ ms : List Nat, S[m]? = some (.lst (ms.map .ref)) ∧ All2 (fun m ds => S[m]? = some (.lst ds)) ms dss
theorem LL.keep {S S' : Sto} {m : Nat} {dss : List (List D)} (h : LL S m dss) (f : Frm [] S S') : LL S' m dss := by
  obtain ⟨ms, h1, h2⟩ := h
  exact ⟨ms, f.at_ h1 (by simp), all2_mono (fun a b q => f.at_ q (by simp)) h2⟩
theorem rd_ll {S : Sto} {k : Nat} {ms : List Nat} {dss : List (List D)} (h : All2 (fun m ds => S[m]? = some (.lst ds)) ms dss) : (dss.all fun ds => ds.all isLf) = true → optMap (rdP (k + 2) S) (ms.map .ref) = some (dss.map fun ds => .list (ds.map lfP)) := by
  induction h with
  | nil => intro _; rfl
  | cons h t ih =>
    intro z
    rw [List.all_cons, Bool.and_eq_true] at z
    exact om_cons (rd_lst h (rd_lfs _ z.1)) (ih z.2)
theorem noD_ll : ∀ dss : List (List D), (dss.all fun ds => ds.all isLf) = true → noDs (dss.map fun ds => .list (ds.map lfP)) = true
  | [], _ => rfl
  | ds :: r, h => by
    rw [List.all_cons, Bool.and_eq_true] at h
    show (noDs (ds.map lfP) && noDs (r.map fun ds => .list (ds.map lfP))) = true
    rw [noD_lfs ds h.1, noD_ll r h.2]
    rfl
theorem LL.ne {S : Sto} {m m' : Nat} {dss : List (List D)} (h : LL S m dss) (h' : LL S m' dss) (hl : (dss.all fun ds => ds.all isLf) = true) : cmpD .NotEq (.ref m) (.ref m') S = some false := by
  obtain ⟨ms, h1, h2⟩ := h
  obtain ⟨ms', h1', h2'⟩ := h'
  exact ne_of (rd_lst h1 (rd_ll h2 hl)) (rd_lst h1' (rd_ll h2' hl)) (noD_ll dss hl)
/-- a list of pairs: [k] and a text -/
def LT (S : Sto) (m : Nat) (r : Str) (ks : List Int) : Prop := ∃ ms : List Nat, S[m]? = some (.lst (ms.map fun m => .tup [.ref m, .str r])) ∧ All2 (fun m k => S[m]? = some (.lst [.int k])) ms ks
theorem LT.keep {S S' : Sto} {m : Nat} {r : Str} {ks : List Int} (h : LT S m r ks) (f : Frm [] S S') : LT S' m r ks := by
  obtain ⟨ms, h1, h2⟩ := h
  exact ⟨ms, f.at_ h1 (by simp), all2_mono (fun a b q => f.at_ q (by simp)) h2⟩
theorem rd_lt {S : Sto} {k : Nat} {r : Str} {ms : List Nat} {ks : List Int} (h : All2 (fun m k => S[m]? = some (.lst [.int k])) ms ks) : optMap (rdP (k + 3) S) (ms.map fun m => .tup [.ref m, .str r]) = some (ks.map fun k => .tuple [.list [.int k], .str r]) := by
  induction h with
  | nil => rfl
  | @cons m j ms ks h t ih =>
    have e : rdP (k + 2) S (.ref m) = some (.list [.int j]) := rd_lst h rfl
    refine om_cons ?_ ih
    show (optMap (rdP (k + 2) S) [.ref m, .str r]).map PyData.tuple = _
    rw [om_cons e (om_cons (y := .str r) rfl rfl)]
    rfl
theorem noD_lt {r : Str} : ∀ ks : List Int, noDs (ks.map fun k => PyData.tuple [.list [.int k], .str r]) = true
  | [] => rfl
  | k :: ks => noD_lt ks
theorem LT.ne {S : Sto} {m m' : Nat} {r : Str} {ks : List Int} (h : LT S m r ks) (h' : LT S m' r ks) : cmpD .NotEq (.ref m) (.ref m') S = some false := by
  obtain ⟨ms, h1, h2⟩ := h
  obtain ⟨ms', h1', h2'⟩ := h'
  exact ne_of (rd_lst h1 (rd_lt h2)) (rd_lst h1' (rd_lt h2')) (noD_lt ks)
theorem Sh.bl {b : Bool} : Sh (.bl b) 1 1 := ⟨.bool b, fun S k hk => by
  obtain ⟨j, rfl⟩ : ∃ j, k = j + 1 := ⟨k - 1, by omega⟩
  rfl, rfl, rfl, rfl, by simp [PyData.bulk]⟩
theorem Sh.repr' {d : D} (h : Sh d 2 30) : ∃ r : Str, r.length ≤ 1000000 ∧ ∀ S, reprD d S = some r := by
  obtain ⟨p, h1, h2, h3, h4, h5⟩ := h
  have hl := PyData.shown_le_bulk 100 (by decide) p h4
  refine ⟨PyData.shown p, by omega, fun S => ?_⟩
  unfold reprD
  rw [h1 S 60 (by decide)]
  simp only
  rw [if_pos ⟨by unfold repOk; rw [h2]; rfl, h3, short_len h4 (Nat.le_trans h5 (by decide))⟩]
theorem all2_app {α β : Type} {R : α → β → Prop} {xs xs' : List α} {ys ys' : List β} (h : All2 R xs ys) (h' : All2 R xs' ys') : All2 R (xs ++ xs') (ys ++ ys') := by
  induction h with
  | nil => exact h'
  | cons a t ih => exact .cons a ih
theorem all2_len {α β : Type} {R : α → β → Prop} {xs : List α} {ys : List β} (h : All2 R xs ys) : xs.length = ys.length := by
  induction h with
  | nil => rfl
  | cons a t ih => simp [ih]
end K05
end
section
set_option Elab.async false
set_option linter.all false
set_option maxRecDepth 100000
set_option maxHeartbeats 2000000
namespace K05
open PySem PC
/-! ### the law's defs -/
abbrev FE : List Nat := [0, 1, 2, 3, 4, 5, 6, 7, 8, 9, 10, 12]
def abL (a : Nat) : List D := [.bl (decide (a ∈ FE)), .bl (decide (a ∈ FE)), .bl (decide (a ∈ [11]))]
theorem above_w {L a : Nat} {y : D} {S : Sto} {Q : D → Sto → Prop} (hy : Ex y a) (k : ∀ m S', S'[m]? = some (.lst (abL a)) → S.length ≤ m → Frm [] S S' → Q (.ref m) S') : WF (CC (L + 1)) 5 [y] S Q := by
  have il := hy.il
  rw [wf_def (F := ⟨1, 1, c5⟩) rfl rfl]
  show WB (CC L) c5 [some y] S _
  simp only [c5]
  repeat (first | walk_at "pw" | simp only [il, hy.isx])
  exact k _ _ at_new (Nat.le_refl _) (.app _)
def exL (x : D) : List D := [.exn 0, .exn 1, .exn 2, .exn 3, .exn 4, .exc 5 "door" x, .exc 6 "place" x, .exc 7 "name" x, .exc 8 "name" x, .exc 9 "name" x, .exc 10 "run" x, .exc 11 "name" x]
theorem exL_at {x : D} : ∀ i, i < 12 → ∃ y, (exL x)[i]? = some y ∧ Ex y i
  | 0, _ => ⟨_, rfl, .inl rfl⟩
  | 1, _ => ⟨_, rfl, .inl rfl⟩
  | 2, _ => ⟨_, rfl, .inl rfl⟩
  | 3, _ => ⟨_, rfl, .inl rfl⟩
  | 4, _ => ⟨_, rfl, .inl rfl⟩
  | 5, _ => ⟨_, rfl, .inr ⟨_, _, rfl⟩⟩
  | 6, _ => ⟨_, rfl, .inr ⟨_, _, rfl⟩⟩
  | 7, _ => ⟨_, rfl, .inr ⟨_, _, rfl⟩⟩
  | 8, _ => ⟨_, rfl, .inr ⟨_, _, rfl⟩⟩
  | 9, _ => ⟨_, rfl, .inr ⟨_, _, rfl⟩⟩
  | 10, _ => ⟨_, rfl, .inr ⟨_, _, rfl⟩⟩
  | 11, _ => ⟨_, rfl, .inr ⟨_, _, rfl⟩⟩
  | i + 12, h => by omega
theorem all_w {L : Nat} {x : D} {t : Str} {S : Sto} {Q : D → Sto → Prop} (hx : isLam x = false) (k : ∀ m S', S'[m]? = some (.lst (exL x)) → S.length ≤ m → Frm [] S S' → Q (.ref m) S') : WF (CC (L + 1)) 7 [x, .str t] S Q := by
  rw [wf_def (F := ⟨2, 3, c7⟩) rfl rfl]
  show WB (CC L) c7 [some x, some (.str t), none] S _
  simp only [c7]
  repeat (first | walk_at "pw" | simp only [hx, we_mkn])
  simp only [c7_1]
  repeat (first | walk_at "pw" | simp only [hx, we_mkn])
  rw [add_lst (at_app at_new) at_new (by simp)]
  repeat (first | walk_at "pw" | simp only [hx])
  refine k _ _ at_new (by simp) ?_
  simp only [List.append_assoc]
  exact .app _
theorem atr_x {c : Nat} {f : Str} {x : D} {S : Sto} : atrD (.exc c f x) f S = some x := by
  show (if f = f then some x else none) = _
  rw [if_pos rfl]
def boL (x : D) : List D := [.tup [.int 5, x, x], .tup [.int 6, x, x], .tup [.int 7, x, x], .tup [.int 8, x, x], .tup [.int 9, x, x], .tup [.int 10, x, x], .tup [.int 11, x, x]]
theorem bore_w {L : Nat} {x : D} {S : Sto} {Q : D → Sto → Prop} (hx : isLam x = false) (k : ∀ m S', S'[m]? = some (.lst (boL x)) → S.length ≤ m → Frm [] S S' → Q (.ref m) S') : WF (CC (L + 1)) 6 [x] S Q := by
  rw [wf_def (F := ⟨1, 2, c6⟩) rfl rfl]
  show WB (CC L) c6 [some x, none] S _
  simp only [c6]
  repeat (first | walk_at "pw" | simp only [hx, atr_x])
  simp only [c6_1]
  repeat (first | walk_at "pw" | simp only [hx, atr_x])
  rw [add_lst (at_app at_new) at_new (by simp)]
  repeat (first | walk_at "pw" | simp only [hx, atr_x])
  simp only [c6_2]
  repeat (first | walk_at "pw" | simp only [hx, atr_x])
  rw [add_lst (at_app at_new) at_new (by simp)]
  repeat (first | walk_at "pw" | simp only [hx, atr_x])
  simp only [c6_3]
  repeat (first | walk_at "pw" | simp only [hx, atr_x])
  rw [add_lst (at_app at_new) at_new (by simp)]
  repeat (first | walk_at "pw" | simp only [hx, atr_x])
  refine k _ _ at_new (by simp) ?_
  simp only [List.append_assoc]
  exact .app _
theorem ap_w {L n : Nat} {x : D} {r : Str} {v : Option D} {k : Int} {xs : List D} {rest : CSs} {S : Sto} {Q : Fl → En → Sto → Prop} (hx : isLam x = false) (hr : ∀ S, reprD x S = some r) (hn : S[n]? = some (.lst xs)) (hl : xs.length ≤ 100)
    (q : WB (CC L) rest [some x, some (.ref n), v] ((S ++ [Ob.lst [.int k]]).set n (.lst (xs ++ [.tup [.ref S.length, .str r]]))) Q) :
    WB (CC L) (.cons (.exp (.meth (.var 1) "append" (.cons (.tupE (.cons (.lstE (.cons (.int k) .nil)) (.cons (.bi .repr (.cons (.var 0) .nil)) .nil))) .nil))) rest) [some x, some (.ref n), v] S Q := by
  have mk : metK (.ref n) S = true := metK_lst hn
  have ma := fun a : D => met_app (d := a) (at_app (T := [Ob.lst [.int k]]) hn) (Nat.lt_of_le_of_lt hl (by decide))
  repeat (first | walk_at "pw" | simp only [hx, hr, mk, ma])
  exact q
theorem st_w {L : Nat} {x : D} {v : Option D} {rest : CSs} {S : Sto} {Q : Fl → En → Sto → Prop} (q : WB (CC L) rest [some x, some (.ref S.length), v] (S ++ [Ob.lst []]) Q) : WB (CC L) (.cons (.set (.name 1) (.lstE .nil)) rest) [some x, none, v] S Q := by
  repeat (first | walk_at "pw")
  exact q
theorem raised_w {L : Nat} {x : D} {r : Str} {S : Sto} {Q : D → Sto → Prop} (hx : isLam x = false) (hr : ∀ S, reprD x S = some r) (k : ∀ m S', LT S' m r [5, 11, 10] → S.length ≤ m → Frm [] S S' → Q (.ref m) S') : WF (CC (L + 1)) 8 [x] S Q := by
  rw [wf_def (F := ⟨1, 3, c8⟩) rfl rfl]
  show WB (CC L) c8 [some x, none, none] S _
  simp only [c8]
  have g0 : (S ++ [Ob.lst []])[S.length]? = some (.lst []) := at_new
  have f0 : Frm [] S (S ++ [Ob.lst []]) := .app _
  have n0 : S.length < (S ++ [Ob.lst []]).length := by simp
  refine st_w ?_
  generalize S ++ [Ob.lst []] = S0 at *
  refine ap_w hx hr g0 (by simp) ?_
  have g1 : ((S0 ++ [Ob.lst [.int 5]]).set S.length (.lst ([] ++ [.tup [.ref S0.length, .str r]])))[S.length]? = _ := at_own (at_app g0)
  have a1 : ((S0 ++ [Ob.lst [.int 5]]).set S.length (.lst ([] ++ [.tup [.ref S0.length, .str r]])))[S0.length]? = some (.lst [.int 5]) := at_set at_new (by omega)
  have f1 : Frm [] S ((S0 ++ [Ob.lst [.int 5]]).set S.length (.lst ([] ++ [.tup [.ref S0.length, .str r]]))) := (f0.trans (.app _)).fresh (Nat.le_refl _)
  have n1 : S0.length < ((S0 ++ [Ob.lst [.int 5]]).set S.length (.lst ([] ++ [.tup [.ref S0.length, .str r]]))).length := by simp
  generalize (S0 ++ [Ob.lst [.int 5]]).set S.length (.lst ([] ++ [.tup [.ref S0.length, .str r]])) = S1 at *
  refine ap_w hx hr g1 (by simp) ?_
  have g2 : ((S1 ++ [Ob.lst [.int 11]]).set S.length (.lst (([] ++ [.tup [.ref S0.length, .str r]]) ++ [.tup [.ref S1.length, .str r]])))[S.length]? = _ := at_own (at_app g1)
  have b2 : ((S1 ++ [Ob.lst [.int 11]]).set S.length (.lst (([] ++ [.tup [.ref S0.length, .str r]]) ++ [.tup [.ref S1.length, .str r]])))[S1.length]? = some (.lst [.int 11]) := at_set at_new (by omega)
  have a2 : ((S1 ++ [Ob.lst [.int 11]]).set S.length (.lst (([] ++ [.tup [.ref S0.length, .str r]]) ++ [.tup [.ref S1.length, .str r]])))[S0.length]? = some (.lst [.int 5]) := at_set (at_app a1) (by omega)
  have f2 : Frm [] S ((S1 ++ [Ob.lst [.int 11]]).set S.length (.lst (([] ++ [.tup [.ref S0.length, .str r]]) ++ [.tup [.ref S1.length, .str r]]))) := (f1.trans (.app _)).fresh (Nat.le_refl _)
  have n2 : S1.length < ((S1 ++ [Ob.lst [.int 11]]).set S.length (.lst (([] ++ [.tup [.ref S0.length, .str r]]) ++ [.tup [.ref S1.length, .str r]]))).length := by simp
  generalize (S1 ++ [Ob.lst [.int 11]]).set S.length (.lst (([] ++ [.tup [.ref S0.length, .str r]]) ++ [.tup [.ref S1.length, .str r]])) = S2 at *
  refine ap_w hx hr g2 (by simp) ?_
  have g3 : ((S2 ++ [Ob.lst [.int 10]]).set S.length (.lst ((([] ++ [.tup [.ref S0.length, .str r]]) ++ [.tup [.ref S1.length, .str r]]) ++ [.tup [.ref S2.length, .str r]])))[S.length]? = _ := at_own (at_app g2)
  have c3 : ((S2 ++ [Ob.lst [.int 10]]).set S.length (.lst ((([] ++ [.tup [.ref S0.length, .str r]]) ++ [.tup [.ref S1.length, .str r]]) ++ [.tup [.ref S2.length, .str r]])))[S2.length]? = some (.lst [.int 10]) := at_set at_new (by omega)
  have b3 : ((S2 ++ [Ob.lst [.int 10]]).set S.length (.lst ((([] ++ [.tup [.ref S0.length, .str r]]) ++ [.tup [.ref S1.length, .str r]]) ++ [.tup [.ref S2.length, .str r]])))[S1.length]? = some (.lst [.int 11]) := at_set (at_app b2) (by omega)
  have a3 : ((S2 ++ [Ob.lst [.int 10]]).set S.length (.lst ((([] ++ [.tup [.ref S0.length, .str r]]) ++ [.tup [.ref S1.length, .str r]]) ++ [.tup [.ref S2.length, .str r]])))[S0.length]? = some (.lst [.int 5]) := at_set (at_app a2) (by omega)
  have f3 : Frm [] S ((S2 ++ [Ob.lst [.int 10]]).set S.length (.lst ((([] ++ [.tup [.ref S0.length, .str r]]) ++ [.tup [.ref S1.length, .str r]]) ++ [.tup [.ref S2.length, .str r]]))) := (f2.trans (.app _)).fresh (Nat.le_refl _)
  generalize (S2 ++ [Ob.lst [.int 10]]).set S.length (.lst ((([] ++ [.tup [.ref S0.length, .str r]]) ++ [.tup [.ref S1.length, .str r]]) ++ [.tup [.ref S2.length, .str r]])) = S3 at *
  repeat (first | walk_at "pw")
  exact k _ S3 ⟨[S0.length, S1.length, S2.length], g3, .cons a3 (.cons b3 (.cons c3 .nil))⟩ (Nat.le_refl _) f3
end K05
end
section
set_option Elab.async false
set_option linter.all false
set_option maxRecDepth 100000
set_option maxHeartbeats 2000000
namespace K05
open PySem PC
/-! ### the comprehensions -/
variable {m5 : Nat} {x : D} {v0 v1 v2 v3 v4 v5 v6 v7 : Option D} {S : Sto} {Q : D → Sto → Prop}
theorem rng_succ {α : Type} (g : Nat → α) (j : Nat) : (List.range (j + 1)).map g = (List.range j).map g ++ [g j] := by
  rw [List.range_succ, List.map_append]
  rfl
theorem lcF {L f : Nat} {g : Nat → List D} (hf : ∀ {j : Nat} {y : D} {S : Sto} {Q : D → Sto → Prop}, Ex y j → (∀ m S', S'[m]? = some (.lst (g j)) → S.length ≤ m → Frm [] S S' → Q (.ref m) S') → WF (CC (L + 1)) f [y] S Q) (h5 : S[m5]? = some (.lst (exL x))) (k : ∀ m S', LL S' m ((List.range 12).map g) → Frm [] S S' → Q (.ref m) S') :
    WE (CC (L + 1)) (.lc (.call f (.cons (.var 6) .nil) []) (.name 6) .val (.cons (.var 5) .nil) .nil [6]) [v0, v1, v2, v3, v4, some (.ref m5), v6, v7] S Q := by
  rw [we_lc]
  repeat (first | walk_at "pw")
  refine lc_w (it_lst h5) (fun xs ys S1 => ∃ (j : Nat) (ms : List Nat), j ≤ 12 ∧ xs = (exL x).drop j ∧ ys = ms.map .ref ∧ All2 (fun m ds => S1[m]? = some (.lst ds) ∧ S.length ≤ m) ms ((List.range j).map g) ∧ Frm [m5] S S1) ⟨0, [], by decide, rfl, rfl, .nil, .froz⟩ ?_ ?_
  · rintro z zs ys S1 ⟨j, ms, r0, r1, rfl, r3, r4⟩
    by_cases hj : j < 12
    · obtain ⟨y, hy, hE⟩ := exL_at (x := x) j hj
      have hj' : j < (exL x).length := hj
      rw [List.drop_eq_getElem_cons hj'] at r1
      injection r1 with r1 r1'
      have ez : z = y := by
        rw [List.getElem?_eq_getElem hj'] at hy
        rw [r1]
        exact Option.some.inj hy
      subst ez r1'
      refine ⟨_, rfl, wts_nil.mpr ?_⟩
      rw [if_pos rfl]
      show WE _ _ _ _ _
      have il := hE.il
      repeat (first | walk_at "pw" | simp only [il])
      refine hf hE fun m S2 hm lm f2 => ⟨j + 1, ms ++ [m], by omega, rfl, by rw [List.map_append]; rfl, ?_, r4.trans (f2.mono (by simp))⟩
      rw [rng_succ]
      exact all2_app (all2_mono (fun a b q => ⟨f2.at_ q.1 (by simp), q.2⟩) r3) (.cons ⟨hm, Nat.le_trans r4.le lm⟩ .nil)
    · rw [List.drop_eq_nil_of_le (by show 12 ≤ j; omega)] at r1
      cases r1
  · rintro ys S1 ⟨j, ms, r0, r1, rfl, r3, r4⟩
    have hj : j = 12 := by
      by_cases hj : j < 12
      · rw [List.drop_eq_getElem_cons (show j < (exL x).length from hj)] at r1
        cases r1
      · omega
    subst hj
    have f5 : Frm [] S (thaw S S1 m5) := ⟨by rw [thaw_len]; exact r4.le, fun m h1 _ => by
      by_cases e : m = m5
      · subst e
        rw [thaw_same h5 (Nat.lt_of_lt_of_le h1 r4.le), h5]
      · rw [thaw_other e, r4.eq m h1 (by simpa using e)]⟩
    have hl := all2_len r3
    simp only [List.foldl_cons, List.foldl_nil]
    refine ⟨by rw [List.length_map, hl, List.length_map, List.length_range]; decide, k _ _ ⟨ms, at_new, all2_mono (fun a b q => ?_) r3⟩ (f5.trans (.app _))⟩
    have ne : a ≠ m5 := by
      have := lt_of h5
      omega
    exact at_app ((thaw_other ne).trans q.1)
theorem lcI {L : Nat} (k : ∀ m S', LL S' m ((List.range 12).map fun (j : Nat) => [D.int j]) → Frm [] S S' → Q (.ref m) S') :
    WE (CC L) (.lc (.lstE (.cons (.var 7) .nil)) (.name 7) .range (.cons (.int (12)) .nil) .nil [7]) [v0, v1, v2, v3, v4, v5, v6, v7] S Q := by
  rw [we_lc]
  repeat (first | walk_at "pw")
  refine lc_w (it_rng (k := 12) (by decide)) (fun xs ys S1 => ∃ (j : Nat) (ms : List Nat), j ≤ 12 ∧ xs = ((List.range 12).map fun (j : Nat) => D.int (0 + j)).drop j ∧ ys = ms.map .ref ∧ All2 (fun m ds => S1[m]? = some (.lst ds)) ms ((List.range j).map fun (j : Nat) => [D.int j]) ∧ Frm [] S S1) ⟨0, [], by decide, rfl, rfl, .nil, .refl⟩ ?_ ?_
  · rintro z zs ys S1 ⟨j, ms, r0, r1, rfl, r3, r4⟩
    by_cases hj : j < 12
    · have hj' : j < ((List.range 12).map fun (j : Nat) => D.int (0 + j)).length := hj
      rw [List.drop_eq_getElem_cons hj'] at r1
      injection r1 with r1 r1'
      have ez : z = .int j := by
        rw [r1]
        simp
      subst ez r1'
      refine ⟨_, rfl, wts_nil.mpr ?_⟩
      rw [if_pos rfl]
      show WE _ _ _ _ _
      repeat (first | walk_at "pw")
      refine ⟨j + 1, ms ++ [S1.length], by omega, rfl, by rw [List.map_append]; rfl, ?_, r4.trans (.app _)⟩
      rw [rng_succ]
      exact all2_app (all2_mono (fun a b q => at_app q) r3) (.cons at_new .nil)
    · rw [List.drop_eq_nil_of_le (by show 12 ≤ j; omega)] at r1
      cases r1
  · rintro ys S1 ⟨j, ms, r0, r1, rfl, r3, r4⟩
    have hj : j = 12 := by
      by_cases hj : j < 12
      · rw [List.drop_eq_getElem_cons (show j < ((List.range 12).map fun (j : Nat) => D.int (0 + j)).length from hj)] at r1
        cases r1
      · omega
    subst hj
    have hl := all2_len r3
    simp only [List.foldl_nil]
    exact ⟨by rw [List.length_map, hl, List.length_map, List.length_range]; decide, k _ _ ⟨ms, at_new, all2_mono (fun a b q => at_app q) r3⟩ (r4.trans (.app _))⟩
theorem it_512 {S : Sto} : itD .range [.int 5, .int 12] S = some ([D.int 5, .int 6, .int 7, .int 8, .int 9, .int 10, .int 11], []) := by rfl
theorem lcB {L : Nat} (hx : isLam x = false) (k : ∀ m S', S'[m]? = some (.lst (boL x)) → Frm [] S S' → Q (.ref m) S') :
    WE (CC L) (.lc (.tupE (.cons (.var 7) (.cons (.var 3) (.cons (.var 3) .nil)))) (.name 7) .range (.cons (.int (5)) (.cons (.int (12)) .nil)) .nil [7]) [v0, v1, v2, some x, v4, v5, v6, v7] S Q := by
  rw [we_lc]
  repeat (first | walk_at "pw")
  refine lc_map (g := fun d => .tup [d, x, x]) it_512 rfl (fun z hz => ⟨_, rfl, ?_⟩) ⟨show 7 < line by decide, k _ _ at_new (.app _)⟩
  have iz : isLam z = false := by
    simp only [List.mem_cons, List.not_mem_nil, or_false] at hz
    rcases hz with rfl | rfl | rfl | rfl | rfl | rfl | rfl <;> rfl
  show WE _ _ _ _ _
  repeat (first | walk_at "pw" | simp only [hx, iz])
theorem it_tup3 {S : Sto} {xs : List D} : itD .val [.tup xs] S = some (xs, []) := rfl
theorem lcT {L : Nat} {r : Str} (hx : isLam x = false) (hr : ∀ S, reprD x S = some r) (k : ∀ m S', LT S' m r [5, 11, 10] → Frm [] S S' → Q (.ref m) S') :
    WE (CC L) (.lc (.tupE (.cons (.lstE (.cons (.var 7) .nil)) (.cons (.bi .repr (.cons (.var 3) .nil)) .nil))) (.name 7) .val (.cons (.tupE (.cons (.int (5)) (.cons (.int (11)) (.cons (.int (10)) .nil)))) .nil) .nil [7]) [v0, v1, v2, some x, v4, v5, v6, v7] S Q := by
  rw [we_lc]
  repeat (first | walk_at "pw")
  refine lc_w it_tup3 (fun xs ys S1 => ∃ (j : Nat) (ms : List Nat), j ≤ 3 ∧ xs = (([5, 11, 10] : List Int).map D.int).drop j ∧ ys = ms.map (fun m => .tup [.ref m, .str r]) ∧ All2 (fun m k => S1[m]? = some (.lst [.int k])) ms (([5, 11, 10] : List Int).take j) ∧ Frm [] S S1) ⟨0, [], by decide, rfl, rfl, .nil, .refl⟩ ?_ ?_
  · rintro z zs ys S1 ⟨j, ms, r0, r1, rfl, r3, r4⟩
    obtain ⟨i, e1, e2, e3, e4⟩ : ∃ i : Int, z = .int i ∧ zs = (([5, 11, 10] : List Int).map D.int).drop (j + 1) ∧ j < 3 ∧ ([5, 11, 10] : List Int).take (j + 1) = ([5, 11, 10] : List Int).take j ++ [i] := by
      match j, r0, r1 with
      | 0, _, r1 =>
        injection r1 with a b
        exact ⟨5, a, b, by decide, rfl⟩
      | 1, _, r1 =>
        injection r1 with a b
        exact ⟨11, a, b, by decide, rfl⟩
      | 2, _, r1 =>
        injection r1 with a b
        exact ⟨10, a, b, by decide, rfl⟩
      | 3, _, r1 => cases r1
    subst e1 e2
    refine ⟨_, rfl, wts_nil.mpr ?_⟩
    rw [if_pos rfl]
    show WE _ _ _ _ _
    repeat (first | walk_at "pw" | simp only [hx, hr])
    refine ⟨j + 1, ms ++ [S1.length], by omega, rfl, by rw [List.map_append]; rfl, ?_, r4.trans (.app _)⟩
    rw [e4]
    exact all2_app (all2_mono (fun a b q => at_app q) r3) (.cons at_new .nil)
  · rintro ys S1 ⟨j, ms, r0, r1, rfl, r3, r4⟩
    have hj : j = 3 := by
      match j, r0, r1 with
      | 0, _, r1 => cases r1
      | 1, _, r1 => cases r1
      | 2, _, r1 => cases r1
      | 3, _, _ => rfl
    subst hj
    have hl := all2_len r3
    simp only [List.foldl_nil]
    exact ⟨by rw [List.length_map, hl]; decide, k _ _ ⟨ms, at_new, all2_mono (fun a b q => at_app q) r3⟩ (r4.trans (.app _))⟩
end K05
end
section
set_option Elab.async false
set_option linter.all false
set_option maxRecDepth 100000
set_option maxHeartbeats 2000000
namespace K05
open PySem PC
variable {n c : Nat} {t : Int} {v3 v4 v5 v6 v7 : Option D} {S : Sto}
theorem bo_sh {x : D} (h : Th x) : Shs (boL x) 3 1000 := by
  have tp : ∀ j : Int, 0 ≤ j → j < 100 → Sh (.tup [.int j, x, x]) 3 70 := fun j h0 h1 => (Sh.tup (dep := 2) (b := 64) (Shs.cons (b := 1) (c := 62) ((Sh.intz (by omega) (by omega)).mono (by decide) (by decide)) (Shs.cons (b := 30) (c := 31) h.sh (Shs.cons (b := 30) (c := 0) h.sh .nil)))).mono (by decide) (by decide)
  have := Shs.cons (tp 5 (by decide) (by decide)) (Shs.cons (tp 6 (by decide) (by decide)) (Shs.cons (tp 7 (by decide) (by decide)) (Shs.cons (tp 8 (by decide) (by decide)) (Shs.cons (tp 9 (by decide) (by decide)) (Shs.cons (tp 10 (by decide) (by decide)) (Shs.cons (tp 11 (by decide) (by decide)) .nil))))))
  obtain ⟨ps, r1, r2, r3, r4, r5⟩ := this
  exact ⟨ps, r1, r2, r3, r4, by omega⟩
theorem three_sh {a b c : Bool} : Shs [.bl a, .bl b, .bl c] 1 6 := Shs.cons Sh.bl (Shs.cons Sh.bl (Shs.cons Sh.bl .nil))
theorem kinds_eq : ((List.range 12).map fun j => (kU j 12).map D.int) = (List.range 12).map fun (j : Nat) => [D.int j] := by rfl
theorem kU_12 : kU 12 12 = [] := by rfl
theorem ab_eq : (List.range 12).map abL = (List.replicate 11 [D.bl true, .bl true, .bl false]) ++ [[.bl false, .bl false, .bl true]] := by rfl
abbrev TTF : List D := [.bl true, .bl true, .bl false]
abbrev FFT : List D := [.bl false, .bl false, .bl true]
abbrev abA (S : Sto) : Sto := S ++ [Ob.lst TTF] ++ [Ob.lst [.ref S.length]] ++ [Ob.lst (List.replicate 11 [D.ref S.length]).flatten]
abbrev abB (S : Sto) : Sto := abA S ++ [Ob.lst FFT] ++ [Ob.lst [.ref (abA S).length]]
abbrev abC (S : Sto) : Sto := abB S ++ [Ob.lst ((List.replicate 11 [D.ref S.length]).flatten ++ [.ref (abA S).length])]
theorem ab_fr (S : Sto) : Frm [] S (abC S) := by
  simp only [abC, abB, abA, List.append_assoc]
  exact .app _
theorem ab_ll (S : Sto) : LL (abC S) (abB S).length ((List.replicate 11 TTF) ++ [FFT]) := by
  have h1 : (abC S)[S.length]? = some (.lst TTF) := at_app (at_app (at_app (at_app (at_app at_new))))
  have h2 : (abC S)[(abA S).length]? = some (.lst FFT) := at_app (at_app at_new)
  have r : ∀ k : Nat, All2 (fun m ds => (abC S)[m]? = some (.lst ds)) (List.replicate k S.length) (List.replicate k TTF) := fun k => by
    induction k with
    | zero => exact .nil
    | succ k ih => exact .cons h1 ih
  refine ⟨List.replicate 11 S.length ++ [(abA S).length], at_new.trans ?_, all2_app (r 11) (.cons h2 .nil)⟩
  rfl
theorem cmp_s {r : Str} : cmpD .NotEq (.str r) (.str r) S = some false := by rw [cmp_ne_s]; simp
theorem turn_w {L : Nat} {Q : Fl → En → Sto → Prop} (d : Dk n c S) (v0 : Option D) (q : ∀ v3 v4 v5 v6 v7 S', Dk n c S' → Frm [n, c] S S' → Q .nx [v0, some (.ref n), some (.int t), v3, v4, v5, v6, v7] S') :
    WB (CC (L + 4)) c9b0 [v0, some (.ref n), some (.int t), v3, v4, v5, v6, v7] S Q := by
  simp only [c9b0]
  repeat (first | walk_at "pw")
  refine thing_w (L := L + 1) d fun x S1 hx d1 f1 => ?_
  repeat (first | walk_at "pw")
  refine thing_w (L := L + 1) d1 fun y S2 hy d2 f2 => ?_
  have F2 := f1.trans f2
  have ix := hx.il
  have iy := hy.il
  obtain ⟨rx, lx, hrx⟩ := hx.sh.repr'
  obtain ⟨ry, ly, hry⟩ := hy.sh.repr'
  have ad : ∀ S, binD .Add (.str "no ") (.str ry) S = some (.str ("no " ++ ry), S) := fun S => bin_add_s (by
    have : ("no " : Str).length = 3 := by decide +kernel
    rw [this]
    exact Nat.le_trans (Nat.add_le_add_left ly 3) (by decide))
  clear d d1 f1 f2
  repeat (first | walk_at "pw" | simp only [iy, ix, hry, ad])
  simp only [c9b0_1]
  repeat (first | walk_at "pw" | simp only [iy, ix])
  refine all_w (L := L + 3) ix fun m5 S3 h5 l5 f3 => ?_
  have d3 := d2.keep f3 (by simp) (by simp)
  have F3 := F2.trans (f3.mono (by simp))
  clear F2 d2 f3 l5
  repeat (first | walk_at "pw")
  simp only [c9b0_2]
  rw [wb_cons, w1_if, we_cmp]
  refine lcF (L := L + 3) (g := fun j => (kU j 12).map .int) (fun hE k => kinds_w hE k) h5 fun a S4 ra f4 => lcI (L := L + 4) fun b S5 rb f5 => ?_
  rw [kinds_eq] at ra
  rw [(ra.keep f5).ne rb (by rfl)]
  have F45 := f4.trans f5
  have h5 := F45.at_ h5 (by simp)
  have d5 := d3.keep F45 (by simp) (by simp)
  have F5 := F3.trans (F45.mono (by simp))
  clear ra rb f4 f5 F45 d3 F3
  repeat (first | walk_at "pw")
  simp only [c9b0_3]
  rw [wb_cons, w1_if, we_cmp]
  refine lcF (L := L + 3) (g := abL) (fun hE k => above_w hE k) h5 fun a S6 ra f6 => ?_
  rw [ab_eq] at ra
  repeat (first | walk_at "pw")
  rw [show (11 : Int) = ((11 : Nat) : Int) from rfl, mul_lst at_new (by decide) (by simp)]
  repeat (first | walk_at "pw")
  rw [add_lst (at_app (at_app at_new)) at_new (by simp)]
  repeat (first | walk_at "pw")
  show WV (cmpD .NotEq (.ref a) (.ref (abB S6).length) (abC S6)) _
  rw [(ra.keep (ab_fr S6)).ne (ab_ll S6) (by rfl)]
  have f7 : Frm [] S5 (abC S6) := f6.trans (ab_fr S6)
  have h7 := f7.at_ h5 (by simp)
  have d7 := d5.keep f7 (by simp) (by simp)
  have F7 := F5.trans (f7.mono (by simp))
  clear ra f6 f7 d5 F5 h5
  repeat (first | walk_at "pw")
  show WB (CC (L + 4)) c9b0_4 _ (abC S6) Q
  generalize abC S6 = S7 at *
  simp only [c9b0_4]
  rw [wb_cons, w1_if, we_cmp]
  obtain ⟨r8, hr8⟩ := lst_repr (bo_sh hx) (by decide) (by decide)
  repeat (first | walk_at "pw" | simp only [ix])
  refine bore_w (L := L + 3) ix fun m8 S8 h8 _ f8 => ?_
  repeat (first | walk_at "pw" | simp only [hr8 _ _ h8])
  refine lcB (L := L + 4) ix fun m9 S9 h9 f9 => ?_
  repeat (first | walk_at "pw" | simp only [hr8 _ _ h9, decide_true])
  have f79 := f8.trans f9
  have d9 := d7.keep f79 (by simp) (by simp)
  have F9 := F7.trans (f79.mono (by simp))
  clear h8 h9 f8 f9 f79 d7 F7 h7
  simp only [c9b0_5]
  rw [wb_cons, w1_if, we_cmp]
  repeat (first | walk_at "pw" | simp only [ix])
  refine raised_w (L := L + 3) ix hrx fun m10 S10 h10 _ f10 => ?_
  refine lcT (L := L + 4) ix hrx fun m11 S11 h11 f11 => ?_
  rw [(h10.keep f11).ne h11]
  have f91 := f10.trans f11
  have d11 := d9.keep f91 (by simp) (by simp)
  have F11 := F9.trans (f91.mono (by simp))
  clear h10 h11 f10 f11 f91 d9 F9
  repeat (first | walk_at "pw")
  simp only [c9b0_6]
  obtain ⟨r9, hr9⟩ := lst_repr (xs := TTF) three_sh (by decide) (by decide)
  repeat (first | walk_at "pw" | simp only [we_mkn])
  refine above_w (L := L + 3) (a := 12) (.inl rfl) fun m12 S12 h12 _ f12 => ?_
  have h12 : S12[m12]? = some (.lst TTF) := h12
  repeat (first | walk_at "pw" | simp only [hr9 _ _ h12, hr9 _ _ at_new, decide_true])
  have f13 : Frm [] S11 (S12 ++ [Ob.lst TTF]) := f12.trans (.app _)
  have d13 := d11.keep f13 (by simp) (by simp)
  have F13 := F11.trans (f13.mono (by simp))
  clear h12 f12 f13 d11 F11
  generalize S12 ++ [Ob.lst TTF] = S13 at *
  repeat (first | walk_at "pw" | simp only [we_mkn])
  refine kinds_w (L := L + 3) (a := 12) (.inl rfl) fun m14 S14 h14 _ f14 => ?_
  rw [kU_12] at h14
  repeat (first | walk_at "pw")
  rw [(eq_nil (at_app h14) at_new).2]
  have f15 : Frm [] S13 (S14 ++ [Ob.lst []]) := f14.trans (.app _)
  have d15 := d13.keep f15 (by simp) (by simp)
  have F15 := F13.trans (f15.mono (by simp))
  simp only [List.map_nil, List.isEmpty_nil]
  repeat (first | walk_at "pw")
  exact q _ _ _ _ _ _ d15 F15
theorem law_w {L : Nat} {xs : List Int} {Q : D → Sto → Prop} (hl : xs.length ≤ 63) (q : ∀ S, Q (.bl true) S) : WF (CC (L + 5)) 9 [.frl (xs.map .int)] [] Q := by
  rw [wf_def (F := ⟨1, 8, c9⟩) rfl rfl]
  show WB (CC (L + 4)) c9 [some (.frl (xs.map .int)), none, none, none, none, none, none, none] [] _
  simp only [c9]
  repeat (first | walk_at "pw")
  refine deck_w (L := L + 3) hl fun n c S d _ _ _ => ?_
  repeat (first | walk_at "pw")
  simp only [c9_1]
  repeat (first | walk_at "pw" | simp only [w1_for])
  refine for_w (it_rng (k := 8) (by decide)) (fun ys en S2 => ∃ (ts : List Nat) (v1 v3 v4 v5 v6 v7 : Option D), ys = ts.map (fun (j : Nat) => .int (0 + j)) ∧ en = [some (.frl (xs.map .int)), some (.ref n), v1, v3, v4, v5, v6, v7] ∧ Dk n c S2) ⟨List.range 8, none, none, none, none, none, none, rfl, rfl, d⟩ ?_ ?_
  · rintro y ys en S2 ⟨ts, v1, v3, v4, v5, v6, v7, r1, rfl, r3⟩
    cases ts with
    | nil => cases r1
    | cons t ts =>
      rw [List.map_cons] at r1
      injection r1 with r1 r1'
      subst r1 r1'
      refine ⟨_, rfl, ?_⟩
      exact turn_w (L := L) r3 _ (fun v3 v4 v5 v6 v7 S' d' _ => ⟨ts, _, v3, v4, v5, v6, v7, rfl, rfl, d'⟩)
  · rintro en S2 ⟨ts, v1, v3, v4, v5, v6, v7, r1, rfl, r3⟩
    simp only [List.foldl_nil, wk_nx, c9_2]
    walk_at "pwt"
    exact q S2
end K05
end
section
set_option Elab.async false
set_option linter.all false
namespace K05
open PySem PC
theorem pure_ok : K05.Pure := fun xs hx => by
  obtain ⟨d, S', h, rfl⟩ := law_w (L := 35) (xs := xs) (Q := fun d _ => d = .bl true) hx fun _ => rfl
  exact ⟨S', h⟩
end K05
end
end
theorem PySem.Challenge.cw_kinferry_k05_refusals_made_holds : PySem.Challenge.rw_kinferry_k05_refusals_made.Holds := by
  exact k05_of K05.pure_ok
