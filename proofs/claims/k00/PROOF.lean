import PyProof.Rows.All
import Wide.All
import OpenK.AllK
import Wide.FinOn
import HandS.ForMost
import HandS.ForExc
import HandS.TupAny
import HandS.IsInst
import HandS.Deep
import HandS.Rev
import HandS.Zip
import HandS.Flow
import HandS.Style
import HandS.RaiseMore
import HandS.StrMore
import HandS.RevTup
import KE.DataFind
import HandS.Head0
import HandS.Head1
import HandS.Head2
import HandS.HeadEnd
import HandS.HeadHook1
import HandS.HeadHook2
import HandS.HeadHook4
import HandS.HeadNt
import HandS.EndBits
import PySem.Challenge.RW_fractionwords_k00_kind_measures
set_option Elab.async false
set_option linter.all false
set_option maxRecDepth 100000
/-! Part 1: plain data, the small syntax, its evaluation. -/
namespace Eg
open PySem

inductive D where
  | non | bl (b : Bool) | int (i : Int) | str (s : Str)
  | tup (l : List D) | fl (l : List D) | ref (n : Nat)

inductive Ob where
  | lst (l : List D)
  | dic (kvs : List (L2.Key × D))

abbrev Hd := List Ob
abbrev Sg := List (Option D)

inductive Res (α : Type) where
  | ok (a : α) (h : Hd) | exc (e : Nat) (h : Hd) | bad

def Res.bind {α β : Type} (r : Res α) (f : α → Hd → Res β) : Res β :=
  match r with
  | .ok a h => f a h
  | .exc e h => .exc e h
  | .bad => .bad

/-- what a statement comes to -/
inductive SR where
  | nx (σ : Sg) (h : Hd) | ret (d : D) (h : Hd) | brk (σ : Sg) (h : Hd) | cnt (σ : Sg) (h : Hd) | exc (e : Nat) (σ : Sg) (h : Hd) | bad

def Res.st {α : Type} (r : Res α) (σ : Sg) (f : α → Hd → SR) : SR :=
  match r with
  | .ok a h => f a h
  | .exc e h => .exc e σ h
  | .bad => .bad

abbrev lim : Nat := 1000000

/-- part of a list, by bounds -/
def cutL {α : Type} (xs : List α) (lo hi : Option Int) : List α := (xs.drop (HT.sIx xs.length 0 lo)).take (HT.sIx xs.length xs.length hi - HT.sIx xs.length 0 lo)

/-! ### data as the library's -/
def toP (h : Hd) : Nat → D → Option PyData
  | 0, _ => none
  | n + 1, d => match d with
    | .non => some .none
    | .bl b => some (.bool b)
    | .int i => some (.int i)
    | .str s => some (.str s)
    | .tup l => (l.mapM (toP h n)).map PyData.tuple
    | .fl l => (l.mapM (toP h n)).map PyData.list
    | .ref k => match h[k]? with
      | some (.lst l) => (l.mapM (toP h n)).map PyData.list
      | _ => none

/-- scalars -/
def scalD : D → D → Option Bool
  | .int i, .int j => some (decide (i = j))
  | .str a, .str b => some (decide (a = b))
  | .bl a, .bl b => some (decide (a = b))
  | .non, .non => some true
  | .non, .int _ => some false
  | .int _, .non => some false
  | .non, .bl _ => some false
  | .bl _, .non => some false
  | .non, .str _ => some false
  | .str _, .non => some false
  | .int _, .str _ => some false
  | .str _, .int _ => some false
  | .bl _, .str _ => some false
  | .str _, .bl _ => some false
  | _, _ => none
def eqS (h : Hd) (x y : D) : Option Bool :=
  match toP h 62 x, toP h 62 y with
  | some p, some q => some (PyData.eqv p q)
  | _, _ => none

def eqD (h : Hd) (x y : D) : Option Bool := match scalD x y with
  | some b => some b
  | none => eqS h x y

def truD (h : Hd) : D → Option Bool
  | .non => some false
  | .bl b => some b
  | .int i => some (i != 0)
  | .str s => if s.length ≤ lim then some ((s.length : Int) != 0) else none
  | .tup l => some (!l.isEmpty)
  | .fl l => some (!l.isEmpty)
  | .ref k => match h[k]? with
    | some (.lst l) => some (!l.isEmpty)
    | some (.dic l) => some (!l.isEmpty)
    | none => none

def okd (o : Option D) (h : Hd) : Res D := match o with
  | some d => .ok d h
  | none => .bad
def okb (o : Option Bool) (h : Hd) : Res D := match o with
  | some b => .ok (.bl b) h
  | none => .bad

instance (i j : Int) : Decidable (L2.CMul i j) := by unfold L2.CMul; infer_instance
instance (i j : Int) : Decidable (L2.CDivN i j) := by unfold L2.CDivN; infer_instance
instance (i j : Int) : Decidable (L2.CPow i j) := by unfold L2.CPow; infer_instance
def evBin (op : Operator) (x y : D) (h : Hd) : Res D :=
  match op, x, y with
  | .Add, .int i, .int j => .ok (.int (i + j)) h
  | .Sub, .int i, .int j => .ok (.int (i - j)) h
  | .Mult, .int i, .int j => if L2.CMul i j then .ok (.int (i * j)) h else .bad
  | .FloorDiv, .int i, .int j => if L2.CDivN i j then .ok (.int (i.fdiv j)) h else .bad
  | .Mod, .int i, .int j => if j ≠ 0 then .ok (.int (i.fmod j)) h else .bad
  | .Pow, .int i, .int j => if L2.CPow i j then .ok (.int (i ^ j.toNat)) h else .bad
  | .Add, .str a, .str b => if a.length + b.length ≤ lim then .ok (.str (a ++ b)) h else .bad
  | .Add, .tup a, .tup b => if a.length + b.length ≤ lim then .ok (.tup (a ++ b)) h else .bad
  | .Add, .ref a, .ref b => match h[a]?, h[b]? with
    | some (.lst xs), some (.lst ys) => if xs.length + ys.length ≤ lim then .ok (.ref h.length) (h ++ [.lst (xs ++ ys)]) else .bad
    | _, _ => .bad
  | _, _, _ => .bad

def flatD : D → Bool
  | .non => true | .bl _ => true | .int _ => true | .str _ => true | _ => false
def eqF : D → D → Bool
  | .non, .non => true
  | .bl a, .bl b => a == b
  | .bl a, .int b => (if a then 1 else 0) == b
  | .int a, .bl b => a == (if b then 1 else 0)
  | .int a, .int b => a == b
  | .str a, .str b => a == b
  | _, _ => false

/-- x in y -/
def inD (h : Hd) (x y : D) : Option Bool :=
  match y with
  | .tup l => if flatD x = true ∧ l.all flatD = true then some (l.any fun z => eqF z x) else none
  | .fl l => if flatD x = true ∧ l.all flatD = true then some (l.any fun z => eqF z x) else none
  | .ref k => match h[k]? with
    | some (.lst l) => if flatD x = true ∧ l.all flatD = true then some (l.any fun z => eqF z x) else none
    | _ => none
  | .str z => match x with
    | .str w => match w.cps.toList with
      | [c] => some (decide (c ∈ z.cps.toList))
      | _ => none
    | _ => none
  | _ => none

def isNB : D → Option D
  | .non => some .non
  | .bl b => some (.bl b)
  | _ => none

def evCmp (op : CmpOp) (x y : D) (h : Hd) : Res D :=
  match op with
  | .Eq => okb (eqD h x y) h
  | .NotEq => okb ((eqD h x y).map not) h
  | .Lt => match x, y with
    | .int i, .int j => .ok (.bl (decide (i < j))) h
    | .str i, .str j => .ok (.bl (decide (i.cps.toList < j.cps.toList))) h
    | _, _ => .bad
  | .LtE => match x, y with
    | .int i, .int j => .ok (.bl (decide (i ≤ j))) h
    | _, _ => .bad
  | .Gt => match x, y with
    | .int i, .int j => .ok (.bl (decide (j < i))) h
    | _, _ => .bad
  | .GtE => match x, y with
    | .int i, .int j => .ok (.bl (decide (j ≤ i))) h
    | _, _ => .bad
  | .In => okb (inD h x y) h
  | .NotIn => okb ((inD h x y).map not) h
  | .Is => match y with
    | .non => .ok (.bl (match x with | .non => true | _ => false)) h
    | .bl b => match x with
      | .bl a => .ok (.bl (decide (a = b))) h
      | _ => .bad
    | _ => .bad
  | .IsNot => match y with
    | .non => .ok (.bl (match x with | .non => false | _ => true)) h
    | .bl b => match x with
      | .bl a => .ok (.bl (!decide (a = b))) h
      | _ => .bad
    | _ => .bad

def toKey : D → Option L2.Key
  | .int i => some (.inl i)
  | .str s => some (.inr s)
  | _ => none
def lookK (kvs : List (L2.Key × D)) (k : L2.Key) : Option D := (kvs.find? fun kv => decide (kv.1 = k)).map (·.2)

def evIx (x y : D) (h : Hd) : Res D :=
  match x with
  | .tup l => (match y with
    | .int i => okd (L2.atI l i) h
    | _ => .bad)
  | .fl l => (match y with
    | .int i => okd (L2.atI l i) h
    | _ => .bad)
  | .str s => (match y with
    | .int i => if s.length ≤ lim then okd ((L2.atI s.cps.toList i).map fun c => D.str ⟨#[c]⟩) h else .bad
    | _ => .bad)
  | .ref k => (match h[k]? with
    | some (.lst l) => (match y with
      | .int i => okd (L2.atI l i) h
      | _ => .bad)
    | some (.dic kvs) => (match toKey y with
      | some key => okd (lookK kvs key) h
      | none => .bad)
    | none => .bad)
  | _ => .bad

def optI : Option D → Option (Option Int)
  | none => some none
  | some (.int i) => some (some i)
  | _ => none
def evSl (x : D) (lo hi : Option Int) (h : Hd) : Res D :=
  match x with
  | .tup l => .ok (.tup (cutL l lo hi)) h
  | .str s => if s.length ≤ lim then .ok (.str (L2.cutS s lo hi)) h else .bad
  | .fl l => .ok (.ref h.length) (h ++ [.lst (cutL l lo hi)])
  | .ref k => match h[k]? with
    | some (.lst l) => .ok (.ref h.length) (h ++ [.lst (cutL l lo hi)])
    | _ => .bad
  | _ => .bad

inductive Ty where
  | str | int | bool | tuple | list | dict
  deriving DecidableEq
def isiD (h : Hd) (x : D) (t : Ty) : Option Bool :=
  match x with
  | .non => some false
  | .bl _ => some (t == .bool || t == .int)
  | .int _ => some (t == .int)
  | .str _ => some (t == .str)
  | .tup _ => some (t == .tuple)
  | .fl _ => some (t == .list)
  | .ref k => match h[k]? with
    | some (.lst _) => some (t == .list)
    | some (.dic _) => some (t == .dict)
    | none => none

inductive Bi where
  | len | int | abs | str | min | max | sum | list | tuple | all | any | rev
  deriving DecidableEq
def listOf (h : Hd) : D → Option (List D)
  | .fl l => some l
  | .ref k => match h[k]? with
    | some (.lst l) => some l
    | _ => none
  | _ => none
def seqOf (h : Hd) : D → Option (List D)
  | .tup l => some l
  | .fl l => some l
  | .ref k => match h[k]? with
    | some (.lst l) => some l
    | _ => none
  | _ => none
def intsOf : List D → Option (List Int)
  | [] => some []
  | .int i :: r => (intsOf r).map (i :: ·)
  | _ => none
def blsOf : List D → Option (List Bool)
  | [] => some []
  | .bl i :: r => (blsOf r).map (i :: ·)
  | _ => none
def strsOf : List D → Option (List Str)
  | [] => some []
  | .str i :: r => (strsOf r).map (i :: ·)
  | _ => none
def lenD (h : Hd) : D → Option Nat
  | .str s => if s.length ≤ lim then some s.length else none
  | .tup l => some l.length
  | .fl l => some l.length
  | .ref k => match h[k]? with
    | some (.lst l) => some l.length
    | some (.dic l) => some l.length
    | none => none
  | _ => none
def evBi (b : Bi) (xs : List D) (h : Hd) : Res D :=
  match b, xs with
  | .len, [x] => okd ((lenD h x).map fun n => D.int n) h
  | .int, [.int i] => .ok (.int i) h
  | .int, [.bl k] => .ok (.int (if k then 1 else 0)) h
  | .int, [.str s] => match PySem.intText? s with
    | some n => if s.length ≤ 640 then .ok (.int n) h else .bad
    | none => .bad
  | .abs, [.int i] => .ok (.int (if i < 0 then -i else i)) h
  | .str, [.int i] => if i.natAbs.log2 < 1920 then .ok (.str (toString i)) h else .bad
  | .str, [.str s] => .ok (.str s) h
  | .min, [.int i, .int j] => .ok (.int (if j < i then j else i)) h
  | .max, [.int i, .int j] => .ok (.int (if j > i then j else i)) h
  | .sum, [x] => okd (((listOf h x).bind intsOf).map fun ns => D.int ns.sum) h
  | .all, [x] => okd (((listOf h x).bind blsOf).map fun ns => D.bl (ns.all id)) h
  | .any, [x] => okd (((listOf h x).bind blsOf).map fun ns => D.bl (ns.any id)) h
  | .list, [x] => match seqOf h x with
    | some l => .ok (.ref h.length) (h ++ [.lst l])
    | none => .bad
  | .tuple, [x] => match seqOf h x with
    | some l => .ok (.tup l) h
    | none => .bad
  | .rev, [x] => match listOf h x with
    | some l => .ok (.ref h.length) (h ++ [.lst l.reverse])
    | none => .bad
  | _, _ => .bad

inductive Me where
  | append | extend | pop | split | partition | join | count | startswith | upper
  deriving DecidableEq
def okMe (m : Me) (x : D) (h : Hd) : Bool := match m with
  | .append | .extend | .pop => (match x with
    | .ref k => (match h[k]? with
      | some (.lst _) => true
      | _ => false)
    | _ => false)
  | .split | .partition | .join | .startswith | .upper => (match x with
    | .str _ => true
    | _ => false)
  | .count => (match x with
    | .str _ => true
    | .tup _ => true
    | _ => false)
/-- how many are equal -/
def cntD (l : List D) (x : D) : Option Nat := if flatD x = true ∧ l.all flatD = true then some (l.countP fun z => eqF z x) else none
def evMe (m : Me) (o : D) (xs : List D) (h : Hd) : Res D :=
  match m, o, xs with
  | .append, .ref k, [x] => match h[k]? with
    | some (.lst l) => if l.length < lim then .ok .non (h.set k (.lst (l ++ [x]))) else .bad
    | _ => .bad
  | .extend, .ref k, [.ref j] => match h[k]?, h[j]? with
    | some (.lst l), some (.lst r) => if l.length + r.length ≤ lim then .ok .non (h.set k (.lst (l ++ r))) else .bad
    | _, _ => .bad
  | .pop, .ref k, [] => match h[k]? with
    | some (.lst l) => match l[l.length - 1]? with
      | some y => .ok y (h.set k (.lst l.dropLast))
      | none => .bad
    | _ => .bad
  | .split, .str a, [.str b] => if (b.length == 0) = false ∧ a.length + 2 ≤ lim then .ok (.ref h.length) (h ++ [.lst ((Txt.split a b).map D.str)]) else .bad
  | .partition, .str a, [.str b] => if (b.length == 0) = false ∧ a.length ≤ lim then
      .ok (.tup [.str (Txt.partition a b).1, .str (Txt.partition a b).2.1, .str (Txt.partition a b).2.2]) h else .bad
  | .join, .str a, [x] => match (seqOf h x).bind strsOf with
    | some ys => if (ys.map (·.length)).sum + ys.length * a.length ≤ lim then .ok (.str (Txt.join a ys)) h else .bad
    | none => .bad
  | .count, .tup l, [x] => match cntD l x with
    | some n => .ok (.int n) h
    | none => .bad
  | .count, .str a, [.str b] => .ok (.int (Txt.count a b)) h
  | .startswith, .str a, [.str b] => .ok (.bl (Txt.startswith a b)) h
  | .upper, .str a, [] => if a.length ≤ lim then .ok (.str (Txt.upper a)) h else .bad
  | _, _, _ => .bad

/-! ### the small syntax -/
inductive Tg where
  | nm (i : Nat) | tp (is : List Nat)
mutual
inductive T where
  | var (i : Nat) | cst (d : D)
  | bin (op : Operator) (a b : T) | neg (a : T)
  | cmp (op : CmpOp) (a b : T) | chn (o1 o2 : CmpOp) (a b c : T)
  | and (a b : T) | or (a b : T) | not (a : T) | ite (c a b : T)
  | tup (ts : TL) | lst (ts : TL) | dic (ks : List L2.Key) (ts : TL)
  | ix (a b : T) | sl (a : T) (lo hi : TO)
  | call (f : Nat) (as : TL) | bi (b : Bi) (as : TL) | me (m : Me) (o : T) (as : TL)
  | isi (a : T) (c : Ty)
  | lc (elt : T) (tg : Tg) (own : List Nat) (it : It) (c : TO)
inductive TL where
  | nil | cons (t : T) (r : TL)
inductive TO where
  | no | yes (t : T)
inductive It where
  | of (t : T) | rng1 (a : T) | rng2 (a b : T)
end
mutual
inductive S where
  | asg (i : Nat) (e : T) | unp (is : List Nat) (e : T) | setI (o i e : T) | aug (i : Nat) (op : Operator) (e : T)
  | ex (e : T) | ret (e : T) | retN
  | ife (c : T) (a b : SL) | whl (c : T) (b : SL) | fr (tg : Tg) (it : It) (b : SL)
  | pas | brk | cnt | rse (c : Nat)
inductive SL where
  | nil | cons (s : S) (r : SL)
end

/-! ### evaluation -/
abbrev Orc := Nat → List D → Hd → Res D
def setN (σ : Sg) : List Nat → List D → Option Sg
  | [], [] => some σ
  | i :: is, d :: ds => setN (σ.set i (some d)) is ds
  | _, _ => none
def evTg (tg : Tg) (d : D) (σ : Sg) : Option Sg := match tg with
  | .nm i => some (σ.set i (some d))
  | .tp is => match d with
    | .tup l => setN σ is l
    | _ => none
def wipeD (σ : Sg) : List Nat → Sg
  | [] => σ
  | v :: vs => (wipeD σ vs).set v none
def rngL (lo : Int) (n : Nat) : List D := (List.range n).map fun (k : Nat) => D.int (lo + k)
/-- what is walked: the items, the list where it is one -/
def itemsOf (h : Hd) : D → Option (List D × Option Nat)
  | .tup l => some (l, none)
  | .fl l => some (l, none)
  | .str s => some (s.cps.toList.map fun c => D.str ⟨#[c]⟩, none)
  | .ref k => match h[k]? with
    | some (.lst l) => some (l, some k)
    | _ => none
  | _ => none
def stays (src : Option Nat) (l : List D) (h : Hd) : Prop := match src with
  | none => True
  | some k => h[k]? = some (.lst l)
open Classical in
/-- a comprehension's turns -/
noncomputable def lcItems (full : List D) (src : Option Nat) (tg : D → Option Sg) (cond : Sg → Hd → Res Bool) (elt : Sg → Hd → Res D) : List D → Hd → Res (List D)
  | [], h => .ok [] h
  | d :: ds, h => match tg d with
    | none => .bad
    | some σ => match cond σ h with
      | .ok true h1 => match elt σ h1 with
        | .ok y h2 => if stays src full h2 then (match lcItems full src tg cond elt ds h2 with
            | .ok r h3 => .ok (y :: r) h3
            | _ => .bad) else .bad
        | _ => .bad
      | .ok false h1 => if stays src full h1 then lcItems full src tg cond elt ds h1 else .bad
      | _ => .bad
open Classical in
/-- a loop's turns -/
noncomputable def forItems (full : List D) (src : Option Nat) (tg : D → Sg → Option Sg) (body : Sg → Hd → SR) : List D → Sg → Hd → SR
  | [], σ, h => .nx σ h
  | d :: ds, σ, h => match tg d σ with
    | none => .bad
    | some σ1 => match body σ1 h with
      | .nx σ2 h2 => if stays src full h2 then forItems full src tg body ds σ2 h2 else .bad
      | .cnt σ2 h2 => if stays src full h2 then forItems full src tg body ds σ2 h2 else .bad
      | .brk σ2 h2 => .nx σ2 h2
      | .ret d h2 => .ret d h2
      | .exc e σ2 h2 => .exc e σ2 h2
      | .bad => .bad
def whileF (test : Sg → Hd → Res Bool) (body : Sg → Hd → SR) : Nat → Sg → Hd → SR
  | 0, _, _ => .bad
  | n + 1, σ, h => match test σ h with
    | .ok true h1 => match body σ h1 with
      | .nx σ2 h2 => whileF test body n σ2 h2
      | .cnt σ2 h2 => whileF test body n σ2 h2
      | .brk σ2 h2 => .nx σ2 h2
      | .ret d h2 => .ret d h2
      | .exc e σ2 h2 => .exc e σ2 h2
      | .bad => .bad
    | .ok false h1 => .nx σ h1
    | .exc e h1 => .exc e σ h1
    | .bad => .bad
def truR (r : Res D) : Res Bool := r.bind fun d h => match truD h d with
  | some b => .ok b h
  | none => .bad
def blR (r : Res D) : Res Bool := r.bind fun d h => match d with
  | .bl b => .ok b h
  | _ => .bad

mutual
noncomputable def evE (F : Orc) : T → Sg → Hd → Res D
  | .var i, σ, h => match σ[i]? with
    | some (some d) => .ok d h
    | _ => .bad
  | .cst d, _, h => .ok d h
  | .bin op a b, σ, h => (evE F a σ h).bind fun x h1 => (evE F b σ h1).bind fun y h2 => evBin op x y h2
  | .neg a, σ, h => (evE F a σ h).bind fun x h1 => match x with
    | .int i => .ok (.int (-i)) h1
    | _ => .bad
  | .cmp op a b, σ, h => (evE F a σ h).bind fun x h1 => (evE F b σ h1).bind fun y h2 => evCmp op x y h2
  | .chn o1 o2 a b c, σ, h => (evE F a σ h).bind fun x h1 => (evE F b σ h1).bind fun y h2 => (evCmp o1 x y h2).bind fun k h3 => match k with
    | .bl true => (evE F c σ h3).bind fun z h4 => evCmp o2 y z h4
    | .bl false => .ok (.bl false) h3
    | _ => .bad
  | .and a b, σ, h => (blR (evE F a σ h)).bind fun k h1 => if k = true then evE F b σ h1 else .ok (.bl false) h1
  | .or a b, σ, h => (blR (evE F a σ h)).bind fun k h1 => if k = true then .ok (.bl true) h1 else evE F b σ h1
  | .not a, σ, h => (blR (evE F a σ h)).bind fun k h1 => .ok (.bl (!k)) h1
  | .ite c a b, σ, h => (evT F c σ h).bind fun k h1 => if k = true then evE F a σ h1 else evE F b σ h1
  | .tup ts, σ, h => (evA F ts σ h).bind fun ds h1 => if ds.length ≤ lim then .ok (.tup ds) h1 else .bad
  | .lst ts, σ, h => (evA F ts σ h).bind fun ds h1 => if ds.length ≤ lim then .ok (.ref h1.length) (h1 ++ [.lst ds]) else .bad
  | .dic ks ts, σ, h => (evA F ts σ h).bind fun ds h1 => if ks.length = ds.length ∧ ks.Nodup ∧ ks.length ≤ 15 then .ok (.ref h1.length) (h1 ++ [.dic (ks.zip ds)]) else .bad
  | .ix a b, σ, h => (evE F a σ h).bind fun x h1 => (evE F b σ h1).bind fun y h2 => evIx x y h2
  | .sl a lo hi, σ, h => (evE F a σ h).bind fun x h1 => (evO F lo σ h1).bind fun l h2 => (evO F hi σ h2).bind fun u h3 => evSl x l u h3
  | .call f as, σ, h => (evA F as σ h).bind fun ds h1 => F f ds h1
  | .bi b as, σ, h => (evA F as σ h).bind fun ds h1 => evBi b ds h1
  | .me m o as, σ, h => (evE F o σ h).bind fun x h1 => if okMe m x h1 = true then (evA F as σ h1).bind fun ds h2 => evMe m x ds h2 else .bad
  | .isi a c, σ, h => (evE F a σ h).bind fun x h1 => okb (isiD h1 x c) h1
  | .lc elt tg own it c, σ, h => (evIt F it σ h).bind fun p h1 =>
      match lcItems p.1 p.2 (fun d => evTg tg d (wipeD σ own)) (fun σ' h' => evC F c σ' h') (fun σ' h' => evE F elt σ' h') p.1 h1 with
      | .ok r h2 => if r.length ≤ lim then .ok (.ref h2.length) (h2 ++ [.lst r]) else .bad
      | _ => .bad
/-- as a test -/
noncomputable def evT (F : Orc) : T → Sg → Hd → Res Bool
  | .and a b, σ, h => (evT F a σ h).bind fun k h1 => if k = true then evT F b σ h1 else .ok false h1
  | .or a b, σ, h => (evT F a σ h).bind fun k h1 => if k = true then .ok true h1 else evT F b σ h1
  | .not a, σ, h => (evT F a σ h).bind fun k h1 => .ok (!k) h1
  | .ite _ _ _, _, _ => .bad
  | .var i, σ, h => truR (match σ[i]? with
    | some (some d) => .ok d h
    | _ => .bad)
  | .cst d, _, h => truR (.ok d h)
  | .cmp op a b, σ, h => blR ((evE F a σ h).bind fun x h1 => (evE F b σ h1).bind fun y h2 => evCmp op x y h2)
  | .chn o1 o2 a b c, σ, h => blR ((evE F a σ h).bind fun x h1 => (evE F b σ h1).bind fun y h2 => (evCmp o1 x y h2).bind fun k h3 => match k with
    | .bl true => (evE F c σ h3).bind fun z h4 => evCmp o2 y z h4
    | .bl false => .ok (.bl false) h3
    | _ => .bad)
  | .call f as, σ, h => truR ((evA F as σ h).bind fun ds h1 => F f ds h1)
  | .bi b as, σ, h => truR ((evA F as σ h).bind fun ds h1 => evBi b ds h1)
  | .isi a c, σ, h => truR ((evE F a σ h).bind fun x h1 => okb (isiD h1 x c) h1)
  | _, _, _ => .bad
noncomputable def evA (F : Orc) : TL → Sg → Hd → Res (List D)
  | .nil, _, h => .ok [] h
  | .cons t r, σ, h => (evE F t σ h).bind fun x h1 => (evA F r σ h1).bind fun xs h2 => .ok (x :: xs) h2
noncomputable def evO (F : Orc) : TO → Sg → Hd → Res (Option Int)
  | .no, _, h => .ok none h
  | .yes t, σ, h => (evE F t σ h).bind fun x h1 => match x with
    | .int i => .ok (some i) h1
    | _ => .bad
noncomputable def evC (F : Orc) : TO → Sg → Hd → Res Bool
  | .no, _, h => .ok true h
  | .yes t, σ, h => evT F t σ h
noncomputable def evIt (F : Orc) : It → Sg → Hd → Res (List D × Option Nat)
  | .of t, σ, h => (evE F t σ h).bind fun x h1 => match itemsOf h1 x with
    | some p => .ok p h1
    | none => .bad
  | .rng1 a, σ, h => (evE F a σ h).bind fun x h1 => match x with
    | .int j => if -(2 ^ 62) ≤ j ∧ j < 2 ^ 62 then .ok (rngL 0 j.toNat, none) h1 else .bad
    | _ => .bad
  | .rng2 a b, σ, h => (evE F a σ h).bind fun x h1 => (evE F b σ h1).bind fun y h2 => match x, y with
    | .int i, .int j => if -(2 ^ 62) ≤ i ∧ i < 2 ^ 62 ∧ -(2 ^ 62) ≤ j ∧ j < 2 ^ 62 then .ok (rngL i (j - i).toNat, none) h2 else .bad
    | _, _ => .bad
end

mutual
noncomputable def evS (F : Orc) (wf : Nat) : S → Sg → Hd → SR
  | .asg i e, σ, h => (evE F e σ h).st σ fun x h1 => .nx (σ.set i (some x)) h1
  | .unp is e, σ, h => (evE F e σ h).st σ fun x h1 => match x with
    | .tup l => (match setN σ is l with
      | some σ1 => .nx σ1 h1
      | none => .bad)
    | _ => .bad
  | .setI o i e, σ, h => (evE F e σ h).st σ fun x h1 => (evE F o σ h1).st σ fun p h2 => (evE F i σ h2).st σ fun j h3 => match p, j with
    | .ref k, .int j => (match h3[k]? with
      | some (.lst l) => (match L2.ixN l.length j with
        | some n => .nx σ (h3.set k (.lst (l.set n x)))
        | none => .bad)
      | _ => .bad)
    | _, _ => .bad
  | .aug i op e, σ, h => match σ[i]? with
    | some (some (.int a)) => (evE F e σ h).st σ fun x h1 => (match op, x with
      | .Add, .int b => .nx (σ.set i (some (.int (a + b)))) h1
      | .Sub, .int b => .nx (σ.set i (some (.int (a - b)))) h1
      | _, _ => .bad)
    | _ => .bad
  | .ex e, σ, h => (evE F e σ h).st σ fun _ h1 => .nx σ h1
  | .ret e, σ, h => (evE F e σ h).st σ fun x h1 => .ret x h1
  | .retN, _, h => .ret .non h
  | .ife c a b, σ, h => (evT F c σ h).st σ fun k h1 => if k = true then evB F wf a σ h1 else evB F wf b σ h1
  | .whl c b, σ, h => whileF (fun σ' h' => evT F c σ' h') (fun σ' h' => evB F wf b σ' h') wf σ h
  | .fr tg it b, σ, h => (evIt F it σ h).st σ fun p h1 => forItems p.1 p.2 (fun d σ' => evTg tg d σ') (fun σ' h' => evB F wf b σ' h') p.1 σ h1
  | .pas, σ, h => .nx σ h
  | .brk, σ, h => .brk σ h
  | .cnt, σ, h => .cnt σ h
  | .rse c, σ, h => .exc c σ h
noncomputable def evB (F : Orc) (wf : Nat) : SL → Sg → Hd → SR
  | .nil, σ, h => .nx σ h
  | .cons s r, σ, h => match evS F wf s σ h with
    | .nx σ1 h1 => evB F wf r σ1 h1
    | x => x
end

/-- a def of the program -/
structure Fn where
  ps : Nat
  ns : Nat
  code : SL
def startD (ns : Nat) (ds : List D) : Sg := ds.map some ++ List.replicate (ns - ds.length) none
def SR.out : SR → Res D
  | .nx _ h => .ok .non h
  | .ret d h => .ok d h
  | .exc e _ h => .exc e h
  | _ => .bad
noncomputable def callN (P : List Fn) (wf : Nat) : Nat → Orc
  | 0, _, _, _ => .bad
  | n + 1, f, ds, h => match P[f]? with
    | none => .bad
    | some fd => if ds.length = fd.ps then (evB (callN P wf n) wf fd.code (startD fd.ns ds) h).out else .bad
end Eg
/-! Part 2: data and the tracked heap. -/
namespace Eg
open PySem PySem.Spec PyProof.Rows L2

abbrev St := L2.St
/-- a list that never changes -/
def SqF (K : PySem.W.Frag) (H : Hp) (a : Addr) (xs : List V) : Prop :=
  (∃ o, H a = some (.frz o (.lst xs))) ∨
    ∃ (o : Obj) (its : Array Value) (n : Nat), K.lookup a = some o ∧ o.cls = .type "list" ∧ o.dict = none ∧ o.data = .seq its n ∧ its.size ≤ sizeLine ∧ Vals xs its.toList
theorem SqF.l {K : PySem.W.Frag} {H : Hp} {a : Addr} {xs : List V} (h : SqF K H a xs) : SqL K H a xs := by
  rcases h with h | h
  · exact .inl (.inr h)
  · exact .inr h

/-- a tuple with nothing beside its items -/
def SqE (K : PySem.W.Frag) (H : Hp) (a : Addr) (xs : List V) : Prop :=
  (∃ o : Obj, H a = some (.frz o (.tup xs)) ∧ o.dict = none) ∨
    ∃ (o : Obj) (its : Array Value) (n : Nat), K.lookup a = some o ∧ o.cls = .type "tuple" ∧ o.dict = none ∧ o.data = .seq its n ∧ its.size ≤ sizeLine ∧ Vals xs its.toList
theorem SqE.t {K : PySem.W.Frag} {H : Hp} {a : Addr} {xs : List V} (h : SqE K H a xs) : SqT K H a xs := by
  rcases h with ⟨o, h, _⟩ | ⟨o, its, n, h1, h2, _, h3⟩
  · exact .inl (.inr ⟨o, h⟩)
  · exact .inr ⟨o, its, n, h1, h2, h3⟩
section
variable (K : PySem.W.Frag)
mutual
def Den (m : List Addr) (H : Hp) : D → V → Prop
  | .non, v => v = .non
  | .bl b, v => v = .bl b
  | .int i, v => v = .int i
  | .str s, v => v = .str s
  | .tup l, v => ∃ p vs, v = .ref p ∧ SqE K H p vs ∧ DenL m H l vs
  | .fl l, v => ∃ p vs, v = .ref p ∧ SqF K H p vs ∧ DenL m H l vs
  | .ref n, v => ∃ a, v = .ref a ∧ m[n]? = some a
def DenL (m : List Addr) (H : Hp) : List D → List V → Prop
  | [], vs => vs = []
  | d :: ds, vs => ∃ v r, vs = v :: r ∧ Den m H d v ∧ DenL m H ds r
end
end

structure Ext (m : List Addr) (H : Hp) (m' : List Addr) (H' : Hp) : Prop where
  pre : m <+: m'
  tup : ∀ p xs, H p = some (.tup xs) → H' p = some (.tup xs)
  frz : ∀ p o u, H p = some (.frz o u) → H' p = some (.frz o u)
theorem pre_get {m m' : List Addr} (h : m <+: m') {n : Nat} {a : Addr} (e : m[n]? = some a) : m'[n]? = some a := by
  obtain ⟨r, rfl⟩ := h
  rw [List.getElem?_append_left (List.getElem?_eq_some_iff.mp e).1]
  exact e

section
variable {K : PySem.W.Frag} {m m' m2 : List Addr} {H H' H2 : Hp}
theorem Ext.sqT (x : Ext m H m' H') {p : Addr} {vs : List V} (h : SqT K H p vs) : SqT K H' p vs := by
  rcases h with (h | ⟨o, h⟩) | h
  · exact .inl (.inl (x.tup _ _ h))
  · exact .inl (.inr ⟨o, x.frz _ _ _ h⟩)
  · exact .inr h
theorem Ext.sqE (x : Ext m H m' H') {p : Addr} {vs : List V} (h : SqE K H p vs) : SqE K H' p vs := by
  rcases h with ⟨o, h, e⟩ | h
  · exact .inl ⟨o, x.frz _ _ _ h, e⟩
  · exact .inr h
theorem Ext.sqF (x : Ext m H m' H') {p : Addr} {vs : List V} (h : SqF K H p vs) : SqF K H' p vs := by
  rcases h with ⟨o, h⟩ | h
  · exact .inl ⟨o, x.frz _ _ _ h⟩
  · exact .inr h
mutual
theorem Den.mono (x : Ext m H m' H') : ∀ {d : D} {v : V}, Den K m H d v → Den K m' H' d v
  | .non, _, h => h
  | .bl _, _, h => h
  | .int _, _, h => h
  | .str _, _, h => h
  | .tup l, v, h => by
    obtain ⟨p, vs, e, h1, h2⟩ := h
    exact ⟨p, vs, e, x.sqE h1, DenL.mono x h2⟩
  | .fl l, v, h => by
    obtain ⟨p, vs, e, h1, h2⟩ := h
    exact ⟨p, vs, e, x.sqF h1, DenL.mono x h2⟩
  | .ref n, v, h => by
    obtain ⟨a, e, h1⟩ := h
    exact ⟨a, e, pre_get x.pre h1⟩
theorem DenL.mono (x : Ext m H m' H') : ∀ {ds : List D} {vs : List V}, DenL K m H ds vs → DenL K m' H' ds vs
  | [], _, h => h
  | d :: ds, _, h => by
    obtain ⟨v, r, e, h1, h2⟩ := h
    exact ⟨v, r, e, Den.mono x h1, DenL.mono x h2⟩
end
theorem DenL.nil : DenL K m H [] [] := rfl
theorem DenL.cons {d : D} {ds : List D} {v : V} {vs : List V} (h : Den K m H d v) (t : DenL K m H ds vs) : DenL K m H (d :: ds) (v :: vs) := ⟨v, vs, rfl, h, t⟩
theorem DenL.len : ∀ {ds : List D} {vs : List V}, DenL K m H ds vs → ds.length = vs.length
  | [], _, h => by rw [show _ = [] from h]; rfl
  | d :: ds, _, h => by
    obtain ⟨v, r, rfl, _, t⟩ := h
    rw [List.length_cons, List.length_cons, t.len]
theorem DenL.app : ∀ {ds es : List D} {vs ws : List V}, DenL K m H ds vs → DenL K m H es ws → DenL K m H (ds ++ es) (vs ++ ws)
  | [], _, _, _, h, k => by rw [show _ = [] from h]; exact k
  | d :: ds, _, _, _, h, k => by
    obtain ⟨v, r, rfl, h1, t⟩ := h
    exact ⟨v, r ++ _, rfl, h1, t.app k⟩
theorem DenL.get : ∀ {ds : List D} {vs : List V} {i : Nat} {d : D}, DenL K m H ds vs → ds[i]? = some d → ∃ v, vs[i]? = some v ∧ Den K m H d v
  | [], _, _, _, _, e => by simp at e
  | d :: ds, _, 0, _, h, e => by
    obtain ⟨v, r, rfl, h1, t⟩ := h
    simp at e; subst e
    exact ⟨v, rfl, h1⟩
  | d :: ds, _, i + 1, _, h, e => by
    obtain ⟨v, r, rfl, h1, t⟩ := h
    simp at e
    obtain ⟨w, e1, e2⟩ := t.get e
    exact ⟨w, by simpa using e1, e2⟩
theorem DenL.getV : ∀ {ds : List D} {vs : List V} {i : Nat} {v : V}, DenL K m H ds vs → vs[i]? = some v → ∃ d, ds[i]? = some d ∧ Den K m H d v
  | [], _, _, _, h, e => by rw [show _ = [] from h] at e; simp at e
  | d :: ds, _, 0, _, h, e => by
    obtain ⟨v, r, rfl, h1, t⟩ := h
    simp at e; subst e
    exact ⟨d, rfl, h1⟩
  | d :: ds, _, i + 1, _, h, e => by
    obtain ⟨v, r, rfl, h1, t⟩ := h
    simp at e
    obtain ⟨w, e1, e2⟩ := t.getV e
    exact ⟨w, by simpa using e1, e2⟩
theorem DenL.drop : ∀ {ds : List D} {vs : List V} (n : Nat), DenL K m H ds vs → DenL K m H (ds.drop n) (vs.drop n)
  | _, _, 0, h => h
  | [], _, n + 1, h => by rw [show _ = [] from h]; rfl
  | d :: ds, _, n + 1, h => by
    obtain ⟨v, r, rfl, h1, t⟩ := h
    exact t.drop n
theorem DenL.take : ∀ {ds : List D} {vs : List V} (n : Nat), DenL K m H ds vs → DenL K m H (ds.take n) (vs.take n)
  | _, _, 0, h => rfl
  | [], _, n + 1, h => by rw [show _ = [] from h]; rfl
  | d :: ds, _, n + 1, h => by
    obtain ⟨v, r, rfl, h1, t⟩ := h
    exact ⟨v, _, rfl, h1, t.take n⟩
theorem DenL.set : ∀ {ds : List D} {vs : List V} (n : Nat) {d : D} {v : V}, DenL K m H ds vs → Den K m H d v → DenL K m H (ds.set n d) (vs.set n v)
  | [], _, n, _, _, h, _ => by rw [show _ = [] from h]; rfl
  | d :: ds, _, 0, _, _, h, k => by
    obtain ⟨v, r, rfl, h1, t⟩ := h
    exact ⟨_, r, rfl, k, t⟩
  | d :: ds, _, n + 1, _, _, h, k => by
    obtain ⟨v, r, rfl, h1, t⟩ := h
    exact ⟨v, _, rfl, h1, t.set n k⟩
theorem DenL.cut {ds : List D} {vs : List V} (lo hi : Option Int) (h : DenL K m H ds vs) : DenL K m H (cutL ds lo hi) (cutV vs lo hi) := by
  unfold cutL cutV
  rw [h.len]
  exact (h.drop _).take _
theorem DenL.reverse : ∀ {ds : List D} {vs : List V}, DenL K m H ds vs → DenL K m H ds.reverse vs.reverse
  | [], _, h => by rw [show _ = [] from h]; rfl
  | d :: ds, _, h => by
    obtain ⟨v, r, rfl, h1, t⟩ := h
    rw [List.reverse_cons, List.reverse_cons]
    exact t.reverse.app ⟨v, [], rfl, h1, rfl⟩
theorem DenL.dropLast {ds : List D} {vs : List V} (h : DenL K m H ds vs) : DenL K m H ds.dropLast vs.dropLast := by
  rw [List.dropLast_eq_take, List.dropLast_eq_take, h.len]
  exact h.take _
end

/-- an object and its data -/
def ObR (K : PySem.W.Frag) (m : List Addr) (H : Hp) (a : Addr) : Ob → Prop
  | .lst l => ∃ vs, H a = some (.lst vs) ∧ DenL K m H l vs
  | .dic kvs => ∃ ws, H a = some (.dK ws) ∧ ws.map (·.1) = kvs.map (·.1) ∧ DenL K m H (kvs.map (·.2)) (ws.map (·.2))

structure Rel (K : PySem.W.Frag) (m : List Addr) (h : Hd) (H : Hp) : Prop where
  len : m.length = h.length
  nd : m.Nodup
  ob : ∀ (n : Nat) (o : Ob), h[n]? = some o → ∃ a, m[n]? = some a ∧ ObR K m H a o

structure Step (m : List Addr) (H : Hp) (m' : List Addr) (H' : Hp) : Prop where
  pre : m <+: m'
  keep : ∀ a o, H a = some o → a ∉ m → H' a = some o ∧ a ∉ m'
theorem Step.refl (m : List Addr) (H : Hp) : Step m H m H := ⟨List.prefix_refl m, fun _ _ h n => ⟨h, n⟩⟩
theorem Step.trans {m m1 m2 : List Addr} {H H1 H2 : Hp} (a : Step m H m1 H1) (b : Step m1 H1 m2 H2) : Step m H m2 H2 :=
  ⟨a.pre.trans b.pre, fun x o h n => let ⟨h1, n1⟩ := a.keep x o h n; b.keep x o h1 n1⟩

section
variable {K : PySem.W.Frag} {m m' m2 : List Addr} {H H' H2 : Hp} {h h' : Hd}
theorem Rel.at (R : Rel K m h H) {a : Addr} (ha : a ∈ m) : ∃ (n : Nat) (o : Ob), h[n]? = some o ∧ m[n]? = some a ∧ ObR K m H a o := by
  obtain ⟨n, hn, e⟩ := List.mem_iff_getElem.mp ha
  have hn' : n < h.length := by rw [← R.len]; exact hn
  obtain ⟨b, e1, q⟩ := R.ob n h[n] (List.getElem?_eq_getElem hn')
  have e2 : m[n]? = some a := by rw [List.getElem?_eq_getElem hn, e]
  rw [e2] at e1
  cases e1
  exact ⟨n, h[n], List.getElem?_eq_getElem hn', e2, q⟩
theorem Rel.isM (R : Rel K m h H) {a : Addr} (ha : a ∈ m) : (∃ vs, H a = some (.lst vs)) ∨ ∃ ws, H a = some (.dK ws) := by
  obtain ⟨n, o, _, _, q⟩ := R.at ha
  cases o with
  | lst l => obtain ⟨vs, e, _⟩ := q; exact .inl ⟨vs, e⟩
  | dic l => obtain ⟨vs, e, _⟩ := q; exact .inr ⟨vs, e⟩
theorem Rel.tupO (R : Rel K m h H) {a : Addr} {xs : List V} (e : H a = some (.tup xs)) : a ∉ m := fun ha => by
  rcases R.isM ha with ⟨vs, z⟩ | ⟨ws, z⟩ <;> (rw [e] at z; cases z)
theorem Rel.frzO (R : Rel K m h H) {a : Addr} {o : Obj} {u : HO} (e : H a = some (.frz o u)) : a ∉ m := fun ha => by
  rcases R.isM ha with ⟨vs, z⟩ | ⟨ws, z⟩ <;> (rw [e] at z; cases z)
theorem Rel.newO (R : Rel K m h H) {a : Addr} (e : H a = none) : a ∉ m := fun ha => by
  rcases R.isM ha with ⟨vs, z⟩ | ⟨ws, z⟩ <;> (rw [e] at z; cases z)
theorem Step.ext (R : Rel K m h H) (s : Step m H m' H') : Ext m H m' H' :=
  ⟨s.pre, fun p xs e => (s.keep p _ e (R.tupO e)).1, fun p o u e => (s.keep p _ e (R.frzO e)).1⟩
theorem ObR.mono {a : Addr} {o : Ob} (x : Ext m H m' H') (e : H' a = H a) (q : ObR K m H a o) : ObR K m' H' a o := by
  cases o with
  | lst l => obtain ⟨vs, e1, q⟩ := q; exact ⟨vs, e.trans e1, q.mono x⟩
  | dic l => obtain ⟨vs, e1, e2, q⟩ := q; exact ⟨vs, e.trans e1, e2, q.mono x⟩

/-- a new object that is not data's -/
theorem Step.side (R : Rel K m h H) {p : Addr} {o : HO} (hp : H p = none) : Step m H m (upd H p o) :=
  ⟨List.prefix_refl m, fun a u e n => ⟨by rw [upd_ne (ne_of_none e hp)]; exact e, n⟩⟩
theorem Rel.side (R : Rel K m h H) {p : Addr} {o : HO} (hp : H p = none) : Rel K m h (upd H p o) :=
  ⟨R.len, R.nd, fun n ob e => by
    obtain ⟨a, e1, q⟩ := R.ob n ob e
    refine ⟨a, e1, q.mono (Step.ext R (Step.side R hp)) ?_⟩
    exact upd_ne fun z => R.newO hp (z ▸ List.mem_of_getElem? e1)⟩
/-- a new object -/
theorem Step.new (R : Rel K m h H) {p : Addr} {o : HO} (hp : H p = none) : Step m H (m ++ [p]) (upd H p o) :=
  ⟨List.prefix_append m [p], fun a u e n => by
    have hne := ne_of_none e hp
    exact ⟨by rw [upd_ne hne]; exact e, fun z => by
      rcases List.mem_append.mp z with z | z
      · exact n z
      · exact hne (by simpa using z)⟩⟩
theorem Rel.new (R : Rel K m h H) {p : Addr} {o : HO} {ob : Ob} (hp : H p = none) (q : ObR K (m ++ [p]) (upd H p o) p ob) : Rel K (m ++ [p]) (h ++ [ob]) (upd H p o) := by
  have nm := R.newO hp
  refine ⟨by simp [R.len], ?_, fun n o' e => ?_⟩
  · rw [List.nodup_append]
    refine ⟨R.nd, by simp, fun a ha b hb => ?_⟩
    rintro rfl
    rw [List.mem_singleton] at hb
    exact nm (hb ▸ ha)
  · by_cases hn : n < h.length
    · rw [List.getElem?_append_left hn] at e
      obtain ⟨a, e1, q1⟩ := R.ob n o' e
      refine ⟨a, pre_get (List.prefix_append _ _) e1, q1.mono (Step.ext R (Step.new R hp)) ?_⟩
      exact upd_ne fun z => nm (z ▸ List.mem_of_getElem? e1)
    · have hl : n = h.length := by
        have := (List.getElem?_eq_some_iff.mp e).1
        rw [List.length_append, List.length_singleton] at this
        omega
      subst hl
      rw [List.getElem?_append_right (Nat.le_refl _), Nat.sub_self] at e
      cases e
      refine ⟨p, ?_, q⟩
      rw [← R.len, List.getElem?_append_right (Nat.le_refl _), Nat.sub_self]
      rfl
/-- an object is changed -/
theorem Step.put {a : Addr} {o : HO} (ha : a ∈ m) : Step m H m (upd H a o) :=
  ⟨List.prefix_refl m, fun b u e n => ⟨by rw [upd_ne fun z => n (by rw [z]; exact ha)]; exact e, n⟩⟩
theorem Rel.put (R : Rel K m h H) {n : Nat} {a : Addr} {o : HO} {ob : Ob} (ea : m[n]? = some a) (q : ObR K m (upd H a o) a ob) : Rel K m (h.set n ob) (upd H a o) := by
  have ha := List.mem_of_getElem? ea
  refine ⟨by rw [List.length_set]; exact R.len, R.nd, fun k o' e => ?_⟩
  by_cases hk : n = k
  · subst hk
    have hn : n < h.length := by
      have := (List.getElem?_eq_some_iff.mp e).1
      rwa [List.length_set] at this
    rw [List.getElem?_set_self hn] at e
    cases e
    exact ⟨a, ea, q⟩
  · rw [List.getElem?_set_ne hk] at e
    obtain ⟨b, e1, q1⟩ := R.ob k o' e
    refine ⟨b, e1, q1.mono (Step.ext R (Step.put ha)) (upd_ne fun z => hk ?_)⟩
    subst z
    exact (List.getElem?_inj (List.getElem?_eq_some_iff.mp ea).1 R.nd).mp (ea.trans e1.symm)
theorem Rel.lst (R : Rel K m h H) {n : Nat} {a : Addr} {l : List D} (e : h[n]? = some (.lst l)) (ea : m[n]? = some a) : ∃ vs, H a = some (.lst vs) ∧ DenL K m H l vs := by
  obtain ⟨b, e1, q⟩ := R.ob n _ e
  rw [ea] at e1; cases e1
  exact q
theorem Rel.dic (R : Rel K m h H) {n : Nat} {a : Addr} {l : List (Key × D)} (e : h[n]? = some (.dic l)) (ea : m[n]? = some a) : ∃ ws, H a = some (.dK ws) ∧ ws.map (·.1) = l.map (·.1) ∧ DenL K m H (l.map (·.2)) (ws.map (·.2)) := by
  obtain ⟨b, e1, q⟩ := R.ob n _ e
  rw [ea] at e1; cases e1
  exact q

/-! ### slots -/
structure DenS (K : PySem.W.Frag) (m : List Addr) (H : Hp) (σd : Sg) (σ : St) : Prop where
  len : σd.length = σ.length
  at_ : ∀ (i : Nat) (d : D), σd[i]? = some (some d) → ∃ v, σ[i]? = some (some v) ∧ Den K m H d v
theorem DenS.mono {σd : Sg} {σ : St} (x : Ext m H m' H') (s : DenS K m H σd σ) : DenS K m' H' σd σ :=
  ⟨s.len, fun i d e => let ⟨v, e1, q⟩ := s.at_ i d e; ⟨v, e1, q.mono x⟩⟩
theorem DenS.set {σd : Sg} {σ : St} {d : D} {v : V} (s : DenS K m H σd σ) (i : Nat) (q : Den K m H d v) : DenS K m H (σd.set i (some d)) (σ.set i (some v)) := by
  refine ⟨by rw [List.length_set, List.length_set, s.len], fun j e hj => ?_⟩
  by_cases hij : i = j
  · subst hij
    have hi : i < σd.length := by
      have := (List.getElem?_eq_some_iff.mp hj).1
      rwa [List.length_set] at this
    rw [List.getElem?_set_self hi] at hj
    cases hj
    exact ⟨v, by rw [List.getElem?_set_self (by rw [← s.len]; exact hi)], q⟩
  · rw [List.getElem?_set_ne hij] at hj
    obtain ⟨w, e1, q1⟩ := s.at_ j e hj
    exact ⟨w, by rw [List.getElem?_set_ne hij]; exact e1, q1⟩
theorem wipeD_len (σ : Sg) : ∀ vs : List Nat, (wipeD σ vs).length = σ.length
  | [] => rfl
  | v :: vs => by unfold wipeD; rw [List.length_set, wipeD_len σ vs]
theorem DenS.wipe {σd : Sg} {σ : St} (s : DenS K m H σd σ) : ∀ own : List Nat, DenS K m H (wipeD σd own) (wipe σ own)
  | [] => s
  | v :: vs => by
    have ih := s.wipe vs
    unfold wipeD L2.wipe
    refine ⟨by rw [List.length_set, List.length_set, ih.len], fun j e hj => ?_⟩
    by_cases hij : v = j
    · subst hij
      by_cases hi : v < (wipeD σd vs).length
      · rw [List.getElem?_set_self hi] at hj; cases hj
      · rw [List.getElem?_eq_none (by rw [List.length_set]; omega)] at hj; cases hj
    · rw [List.getElem?_set_ne hij] at hj
      obtain ⟨w, e1, q1⟩ := ih.at_ j e hj
      exact ⟨w, by rw [List.getElem?_set_ne hij]; exact e1, q1⟩
theorem DenS.start {ds : List D} {vs : List V} (N : List Str) (h : DenL K m H ds vs) : DenS K m H (startD N.length ds) (L2.start N vs) := by
  have hl := h.len
  refine ⟨by unfold startD L2.start; simp only [List.length_append, List.length_map, List.length_replicate]; omega, fun i d e => ?_⟩
  unfold startD at e
  unfold L2.start
  by_cases hi : i < ds.length
  · rw [List.getElem?_append_left (by simpa using hi), List.getElem?_map] at e
    cases q : ds[i]? with
    | none => rw [q] at e; cases e
    | some d' =>
      rw [q] at e
      cases e
      obtain ⟨v, e1, k⟩ := h.get q
      refine ⟨v, ?_, k⟩
      rw [List.getElem?_append_left (by rw [List.length_map]; omega), List.getElem?_map, e1]
      rfl
  · rw [List.getElem?_append_right (by rw [List.length_map]; omega), List.getElem?_replicate] at e
    split at e <;> cases e
end

/-! ### what is wanted of an outcome -/
section
variable (K : PySem.W.Frag) (ecl : Nat → Value)
/-- Qv: how the value is told -/
def PostG {α β : Type} (R : List Addr → Hp → α → β → Prop) (m : List Addr) (H : Hp) (r : Res α) (Q : β → Hp → Prop) (E : XK) : Prop :=
  match r with
  | .ok d h' => ∀ m' H' v, Step m H m' H' → Rel K m' h' H' → R m' H' d v → Q v H'
  | .exc e h' => ∀ m' H', Step m H m' H' → Rel K m' h' H' → E (ecl e) none H'
  | .bad => False
abbrev Post (m : List Addr) (H : Hp) (r : Res D) (Q : VK) (E : XK) : Prop := PostG K ecl (Den K) m H r Q E
abbrev PostA (m : List Addr) (H : Hp) (r : Res (List D)) (Q : List V → Hp → Prop) (E : XK) : Prop := PostG K ecl (DenL K) m H r Q E
abbrev PostB (m : List Addr) (H : Hp) (r : Res Bool) (Q : Bool → Hp → Prop) (E : XK) : Prop := PostG K ecl (fun _ _ (b c : Bool) => b = c) m H r Q E
end
section
variable {K : PySem.W.Frag} {ecl : Nat → Value} {α β γ δ : Type} {R : List Addr → Hp → α → β → Prop} {R2 : List Addr → Hp → γ → δ → Prop} {m m2 : List Addr} {H H2 : Hp}
theorem PostG.step {r : Res α} {Q : β → Hp → Prop} {E : XK} (s : Step m H m2 H2) (p : PostG K ecl R m H r Q E) : PostG K ecl R m2 H2 r Q E := by
  cases r with
  | ok d h' => exact fun m' H' v s' R' q => p m' H' v (s.trans s') R' q
  | exc e h' => exact fun m' H' s' R' => p m' H' (s.trans s') R'
  | bad => exact p
theorem PostG.imp {r : Res α} {Q Q' : β → Hp → Prop} {E : XK} (p : PostG K ecl R m H r Q E) (f : ∀ v H', Q v H' → Q' v H') : PostG K ecl R m H r Q' E := by
  cases r with
  | ok d h' => exact fun m' H' v s' R' q => f _ _ (p m' H' v s' R' q)
  | exc e h' => exact p
  | bad => exact p
/-- one after another -/
theorem PostG.bind {r : Res α} {f : α → Hd → Res γ} {Q : δ → Hp → Prop} {E : XK} (p : PostG K ecl R2 m H (r.bind f) Q E) :
    PostG K ecl R m H r (fun v H1 => ∃ d h1 m1, Step m H m1 H1 ∧ Rel K m1 h1 H1 ∧ R m1 H1 d v ∧ r = .ok d h1 ∧ PostG K ecl R2 m1 H1 (f d h1) Q E) E := by
  cases r with
  | ok d h' => exact fun m' H' v s' R' q => ⟨d, h', m', s', R', q, rfl, PostG.step s' p⟩
  | exc e h' => exact p
  | bad => exact p
theorem PostG.ok {d : α} {h' : Hd} {v : β} {Q : β → Hp → Prop} {E : XK} (p : PostG K ecl R m H (.ok d h') Q E) (Rl : Rel K m h' H) (q : R m H d v) : Q v H := p m H v (Step.refl m H) Rl q
end
end Eg
set_option maxHeartbeats 4000000
/-! Part 3: the operations are right. -/
namespace Eg
open PySem PySem.Spec PyProof.Rows L2 RT

theorem lim_le {n : Nat} (h : n ≤ lim) : n ≤ sizeLine := by rw [sizeLine_eq]; exact Nat.le_trans h (by decide)
theorem lim_lt {n : Nat} (h : n < lim) : n < sizeLine := by rw [sizeLine_eq]; exact Nat.lt_of_lt_of_le h (by decide)
theorem lim_16 {n : Nat} (h : n ≤ lim) : n ≤ 16777216 := Nat.le_trans h (by decide)

section
variable (K : PySem.W.Frag) (ecl : Nat → Value)
def rD (g : D → D → Hd → Res D) : R2 := fun x y H Q => ∃ m hd dx dy E, Rel K m hd H ∧ Den K m H dx x ∧ Den K m H dy y ∧ Post K ecl m H (g dx dy hd) Q E
def rD1 (g : D → Hd → Res D) : V → Hp → VK → Prop := fun x H Q => ∃ m hd dx E, Rel K m hd H ∧ Den K m H dx x ∧ Post K ecl m H (g dx hd) Q E
def rC (g : List D → Hd → Res D) : List V → Hp → VK → Prop := fun xs H Q => ∃ m hd ds E, Rel K m hd H ∧ DenL K m H ds xs ∧ Post K ecl m H (g ds hd) Q E
def rM (g : D → List D → Hd → Res D) : V → List V → Hp → VK → Prop := fun x xs H Q => ∃ m hd d ds E, Rel K m hd H ∧ Den K m H d x ∧ DenL K m H ds xs ∧ Post K ecl m H (g d ds hd) Q E
end

/-! ### list(reversed(x)) -/
section
variable {prog : Program} {w : World} {A : Around} {E : Value → Shared → Prop} {s : Shared}
/-- list(an iterator over a list from behind) -/
theorem list_of_rev {it l : Addr} {xs : Array Value} {Q : Value → Shared → Prop} (hh : A.handled = none) (hi : s.heap.IsRevIter it l ((xs.size : Int) - 1)) (hl : s.heap.IsList l xs) (ne : l ≠ it) (hz : xs.size ≤ sizeLine)
    (hQ : ∀ (hp : Heap) (tk : Nat) (acc : Array Value) (c : Nat), (∀ b o, b ≠ it → s.heap.get? b = some o → hp.get? b = some o) → hp.get? s.heap.objs.size = some { cls := .type "list", dict := none, data := .seq acc c, slots := #[] } →
      ItemsOf (fun i v => xs[xs.size - 1 - i]? = some v) acc xs.size → Q (.ref s.heap.objs.size) { s with heap := hp, toks := tk }) :
    wpAny (model prog w) A (call (.type "list") [.ref it]) Q E s := by
  obtain ⟨oi, gi, _⟩ := id hi
  obtain ⟨ol, gl, _⟩ := id hl
  have si := Heap.lt_size gi
  have sl := Heap.lt_size gl
  have ni : s.heap.objs.size ≠ it := Nat.ne_of_gt si
  have nl : s.heap.objs.size ≠ l := Nat.ne_of_gt sl
  refine callType_codes (Q₁ := fun r z => r = .ref s.heap.objs.size ∧ z = { s with heap := s.heap.push { cls := .type "list", data := .seq #[] } }) PySem.F.called_list (PySem.F.typeCall_list_1 _) PySem.F.entry_list_init (code_list_new _ ⟨rfl, rfl⟩) ?_
  rintro r z ⟨rfl, rfl⟩
  have g0 : (s.heap.push { cls := .type "list", data := .seq #[] }).get? s.heap.objs.size = some { cls := .type "list", data := .seq #[] } := Heap.get?_push_size _ rfl
  refine ⟨⟨_, g0, rfl⟩, PySem.F.args_list_init_2 _ _, ?_⟩
  show wpAny _ _ (do let old ← Builtin.List.listItems (.ref s.heap.objs.size); Builtin.List.listUpdate (.ref s.heap.objs.size) (fun _ => #[]); letGo old.toList.reverse; Builtin.List.listExtendWith (.ref s.heap.objs.size) (.ref it) .none) _ _ _
  refine wpAny_bind ?_
  unfold Builtin.List.listItems
  refine wpAny_bind (wpAny_seqItems g0 rfl (wpAny_pure ?_))
  show wpAny _ _ (updateSeq s.heap.objs.size (fun _ => #[]) >>= fun _ => letGo (#[] : Array Value).toList.reverse >>= fun _ => Builtin.List.listExtendWith (.ref s.heap.objs.size) (.ref it) .none) _ _ _
  refine wpAny_bind (wpAny_updateSeq g0 rfl ?_)
  have g1 := Heap.get?_update_self (Obj.mapSeq (fun _ => (#[] : Array Value))) g0 rfl
  have keep : ∀ b o, b ≠ s.heap.objs.size → s.heap.get? b = some o → ((s.heap.push { cls := .type "list", data := .seq #[] }).update s.heap.objs.size (Obj.mapSeq (fun _ => (#[] : Array Value)))).get? b = some o :=
    fun b o nb e => (Heap.get?_update_other _ _ (Ne.symm nb)).trans (Heap.get?_push_of_some _ e)
  generalize (s.heap.push { cls := .type "list", data := .seq #[] }).update s.heap.objs.size (Obj.mapSeq (fun _ => (#[] : Array Value))) = hp at g1 keep
  refine wpAny_bind (wpAny_letGo ?_)
  have i1 : hp.IsRevIter it l ((xs.size : Int) - 1) := hi.at fun o e => keep it o ni.symm e
  have l1 : hp.IsList l xs := by
    obtain ⟨o, go, q⟩ := hl
    exact ⟨o, keep l o nl.symm go, q⟩
  have W := (Walks.listRev (prog := prog) (w := w) (A := A.in1.in1) hh it l ne xs).toS
  have nf : s.heap.objs.size ∉ [it, l] := by simp only [List.mem_cons, List.not_mem_nil, or_false, not_or]; exact ⟨ni, nl⟩
  have ty : ({ s with heap := hp } : Shared).TypeIs (.ref it) "list_reverseiterator" := Heap.IsRevIter.typeIs (s := { s with heap := hp }) i1
  have same : Builtin.List.listSameRef (.ref s.heap.objs.size) (.ref it) = false := by simp [Builtin.List.listSameRef, ni]
  unfold Builtin.List.listExtendWith
  refine wpAny_bind (wpAny_typeOf ty ?_)
  rw [if_neg (by rw [same]; decide)]
  refine wpAny_bind (wpAny_pyIter_revIter (s := { s with heap := hp }) i1 (wpAny_bind (wpAny_holding ?_)))
  unfold Builtin.List.listLengthHint
  refine wpAny_bind (wpAny_specialOf ty nolen_lri (wpAny_bind (wpAny_specialOf ty hint_lri ?_)))
  generalize eid : ("list_reverseiterator.__length_hint__" : String) = idz
  wp_delta
  rw [show splitId idz = some ("list_reverseiterator", "__length_hint__") from by subst eid; decide +kernel]
  subst eid
  refine wpAny_bind (wpAny_isInstance (b := true) ty (by rw [isSubtype_type]; kernel_rfl) (wpAny_pure ?_))
  rw [if_neg (by decide)]
  have e0 : ((xs.size : Nat) : Int) - 1 - ((0 : Nat) : Int) = (xs.size : Int) - 1 := by omega
  refine wpAny_pure ⟨plainId_quiet F.plain_extend_loop _, codeAny_extend_loopS W hz _ nf _ xs.size 0 _ _ _ rfl (Nat.zero_le _) ⟨Nat.zero_le _, by rw [e0]; exact i1, l1⟩ g1 (ItemsOf.nil _) ?_⟩
  intro z acc c mv gz ac
  refine ⟨rfl, ?_⟩
  rw [Moved.eq_with mv]
  refine hQ z.heap z.toks acc c (fun b o nb e => ?_) gz ac
  have nb2 : b ≠ s.heap.objs.size := Nat.ne_of_lt (Heap.lt_size e)
  refine mv.heap b o (fun hm => ?_) (keep b o nb2 e)
  rcases List.mem_cons.mp hm with q | q
  · exact nb2 q
  · exact nb (List.mem_singleton.mp q)
end
/-! ### tuples with nothing beside their items -/
section
variable {X : Cx} {pins : List (Addr × Obj)} {σ : St} {H : Hp} {s : Shared} {Q : VK}
/-- Q of every new such tuple -/
abbrev NewE (xs : List V) (H : Hp) (Q : VK) : Prop := ∀ (p : Addr) (o : Obj), H p = none → o.dict = none → Q (.ref p) (upd H p (.frz o (.tup xs)))
theorem laidE {xs : List V} {its : List Value} {t : Nat} (I : Inv X pins σ H s) (r : Vals xs its) (z : xs.length ≤ sizeLine) (q : NewE xs H Q) :
    EP X pins σ Q (.ref s.heap.objs.size) { s with toks := t, heap := s.heap.push { cls := .type "tuple", data := .seq its.toArray } } := by
  have nf := I.hok.fresh (Nat.le_refl _)
  refine ⟨.ref s.heap.objs.size, _, I.laid (t' := t) (o := .frz { cls := .type "tuple", data := .seq its.toArray } (.tup xs)) (fun _ _ e => Heap.get?_push_of_some _ e) (Nat.le_refl _) ?_, rfl, q _ _ nf rfl⟩
  exact ⟨Heap.get?_push_size _ rfl, z, its, r, IsTup.new _ _⟩
end
section
variable {X : Cx}
theorem catE : OpR X (binaryOp .Add) (fun x y H Q => ∃ a b xs ys, x = .ref a ∧ y = .ref b ∧ SqT X.K H a xs ∧ SqT X.K H b ys ∧ xs.length + ys.length ≤ sizeLine ∧ (xs = [] → Q (.ref b) H) ∧ (xs ≠ [] → ys = [] → Q (.ref a) H) ∧ (xs ≠ [] → ys ≠ [] → NewE (xs ++ ys) H Q)) := by
  intro pins s σ H x y v u Q I rx ry hh
  obtain ⟨a, b, xs, ys, rfl, rfl, ta, tb, sz, w0, w1, w2⟩ := hh
  cases rx; cases ry
  obtain ⟨ia, ra, pa, _⟩ := I.tuple ta
  obtain ⟨ib, rb, pb, _⟩ := I.tuple tb
  by_cases e0 : xs = []
  · subst e0
    cases ra
    exact cat_tup0 pa pb ⟨.ref b, H, I, rfl, w0 rfl⟩
  · refine HT.cat_tup pa pb (fun z => e0 (ra.nil_iff.mp z)) (fun z => ⟨.ref a, H, I, rfl, w1 e0 (rb.nil_iff.mp z)⟩) (fun z => ?_) (by rw [← ra.length, ← rb.length]; exact sz)
    exact laidE (t := s.toks) I (ra.append rb) (by rw [List.length_append]; exact sz) (w2 e0 fun e => z (rb.nil_iff.mpr e))
theorem cutE : SlR X (fun x lo hi H Q => ∃ a xs, x = .ref a ∧ SqT X.K H a xs ∧ (HT.sIx xs.length 0 lo = 0 ∧ HT.sIx xs.length xs.length hi = xs.length → Q (.ref a) H) ∧ (¬ (HT.sIx xs.length 0 lo = 0 ∧ HT.sIx xs.length xs.length hi = xs.length) → NewE (cutV xs lo hi) H Q)) := by
  intro pins s σ H x v vl vu lo hi sl Q I rx hs pl pu hh
  obtain ⟨a, xs, rfl, tx, w1, w2⟩ := hh
  cases rx
  obtain ⟨ix, rr, tt, zz⟩ := I.tuple tx
  have el : ix.toArray.size = xs.length := by rw [List.size_toArray, rr.length]
  refine ⟨"tuple", _, PyProof.Rows.slot_tuple_getitem.lookup, tt.typeIs, ?_⟩
  by_cases hw : HT.sIx xs.length 0 lo = 0 ∧ HT.sIx xs.length xs.length hi = xs.length
  · exact getItem_tuple_whole tt hs pl pu (by rw [el]; exact hw) ⟨.ref a, H, I, rfl, w1 hw⟩
  · refine HT.getItem_tuple_cut tt hs pl pu (by rw [el]; exact hw) ?_ (by rw [el]; exact zz)
    rw [el]
    exact laidE (t := s.toks) I ((rr.drop (HT.sIx xs.length 0 lo)).take (HT.sIx xs.length xs.length hi - HT.sIx xs.length 0 lo)) (Nat.le_trans (cutV_length xs lo hi) zz) (w2 hw)
theorem dispE {es : List Expr} {pos : Pos} {kk : Nat} {t : TA} (hh : PA X es t) : PE X (.Tuple es kk pos) (fun σ H Q => t σ H fun xs H' => xs.length ≤ sizeLine ∧ NewE xs H' Q) := by
  refine ⟨fun pins s σ H Q I hq => wpAny_Tuple_spliced (thn (hh.run pos pins s σ H _ I hq) ?_)⟩
  rintro us s1 ⟨xs, H1, I1, r, z, q⟩
  exact ⟨by rw [← r.length]; exact z, laidE (t := s1.toks) I1 r z q⟩
theorem tupleE : CallR X (.type "tuple") (fun xs H Q => ∃ p ys, xs = [.ref p] ∧ ((SqL X.K H p ys ∧ NewE ys H Q) ∨ (SqT X.K H p ys ∧ Q (.ref p) H))) := by
  intro pins s σ H xs us Q I r hh
  obtain ⟨p, ys, rfl, hh⟩ := hh
  obtain ⟨u, rfl, ru⟩ := vals1 r
  cases ru
  rcases hh with ⟨hq, q⟩ | ⟨hq, q⟩
  · obtain ⟨ip, rp, pl, hz⟩ := I.list hq
    have hl := rp.length
    refine call_tuple_list pl.isList (fun hp kp => ?_) (by simp only [List.size_toArray] <;> omega)
    have I1 : Inv X pins σ H { s with heap := hp } := I.kept (t' := s.toks) kp
    exact laidE (t := s.toks) I1 rp hz q
  · obtain ⟨ip, rp, pl, hz⟩ := I.tuple hq
    exact call_tuple_same pl ⟨.ref p, H, I, rfl, q⟩
theorem partE : MtR X "str.partition" (fun x xs H Q => ∃ a b, x = .str a ∧ xs = [.str b] ∧ (b.length == 0) = false ∧ a.length ≤ sizeLine ∧ NewE [.str (Txt.partition a b).1, .str (Txt.partition a b).2.1, .str (Txt.partition a b).2.2] H Q) := by
  intro pins s σ H x xs v us Q I rx rs hh
  obtain ⟨a, b, rfl, rfl, nb, sz, hh⟩ := hh
  obtain ⟨t, rfl⟩ := rx
  cases rs with
  | cons r1 rs =>
    cases rs
    obtain ⟨u, rfl⟩ := r1
    refine call_meets F.slot_str_partition (typeIs_str _ _ _) F.entry_str_partition (F.args_str_partition_2 _ _) (meets_str_partition a b t u nb sz) ?_
    unfold Txt.partition at hh
    revert hh
    have go : ∀ {x y z : Str} {t u v : Tok} {k : Nat}, NewE [.str x, .str y, .str z] H Q → EP X pins σ Q (.ref s.heap.objs.size) { s with toks := k, heap := s.heap.push { cls := .type "tuple", data := .seq [Value.str x t, .str y u, .str z v].toArray } } := fun {x y z t u v k} q =>
      laidE (xs := [.str x, .str y, .str z]) I (.cons ⟨t, rfl⟩ (.cons ⟨u, rfl⟩ (.cons ⟨v, rfl⟩ .nil))) (by show 3 ≤ sizeLine; decide) q
    cases Builtin.Str.occurrences a b 0 a.length 1 with
    | nil => intro hh; exact go hh
    | cons i r => intro hh; exact go hh
end
section
variable {X : Cx} {e : Expr} {te : TE} {p p2 pos pos2 : Pos}
theorem pe_listRev (hc : X.calm = true) (g1 : Gl X "list") (m1 : X.mg "list" = none) (g2 : Gl X "reversed") (m2 : X.mg "reversed" = none) (he : PE X e te) (n1 : starEach [e] X.env = (false, eval e X.env) :: starEach [] X.env)
    (n2 : starEach [.Call (.Name "reversed" p2) [e] [] pos2] X.env = (false, eval (.Call (.Name "reversed" p2) [e] [] pos2) X.env) :: starEach [] X.env) :
    PE X (.Call (.Name "list" p) [.Call (.Name "reversed" p2) [e] [] pos2] [] pos) (fun σ H Q => te σ H fun v H1 => ∃ (a : Addr) (xs : List V), v = .ref a ∧ SqL X.K H1 a xs ∧ ∀ q, H1 q = none → Q (.ref q) (upd H1 q (.lst xs.reverse))) := by
  refine ⟨fun pins s σ H Q I hh => ?_⟩
  refine Call_ (ld_blt I g1 m1 boot_list (PyProof.Rows.callWith_type1 (args_cons (Call_ (ld_blt I g2 m2 PyProof.Rows.boot_reversed (PyProof.Rows.callWith_type1 (args_cons (thn (he.run pins s σ H _ I hh) ?_) n1) n1 rfl))) n2) n2 rfl))
  rintro u s1 ⟨v, H1, I1, r1, a, xs, rfl, hq, q⟩
  obtain rfl : u = Value.ref a := r1
  refine args_nil ?_
  obtain ⟨its, rv, pl, hz⟩ := I1.list hq
  refine call_reversed_list pl.isList (args_nil ?_)
  have I2 : Inv X pins σ H1 { s1 with heap := s1.heap.push (revObj a ((its.toArray.size : Int) - 1)) } := I1.kept (t' := s1.toks) fun _ _ e => Heap.get?_push_of_some _ e
  obtain ⟨f0, f1, f2, f3, f4, f5⟩ := I1.fpOk (H' := H1) (b := s1.heap.objs.size) (Nat.le_refl _) (I1.hok.fresh (Nat.le_refl _))
  have il := pl.isList
  obtain ⟨ol, gl, _⟩ := id il
  have nz : its.toArray.size ≤ sizeLine := by rw [List.size_toArray, ← rv.length]; exact hz
  refine list_of_rev (s := { s1 with heap := s1.heap.push (revObj a ((its.toArray.size : Int) - 1)) }) (I1.ok.hd hc) ⟨_, Heap.get?_push_size _ rfl, rfl, rfl⟩ (il.push _) (Nat.ne_of_lt (Heap.lt_size gl)) nz ?_
  intro hp tk acc c kp gp ia
  have nw : ObjOk X.prog X.w (upd H1 (s1.heap.push (revObj a ((its.toArray.size : Int) - 1))).objs.size (.lst xs.reverse)) hp _ (.lst xs.reverse) :=
    ⟨by rw [List.length_reverse]; exact hz, acc.toList, c, vals_rev rv ia, by rw [Array.toArray_toList]; exact gp⟩
  refine ⟨.ref _, _, I2.turnedNew (t' := tk) (ch := [s1.heap.objs.size]) (fun b o nb e => kp b o (fun z => nb (by rw [z]; exact List.mem_cons_self)) e) (fun b hb => ?_) (Nat.le_refl _) nw, rfl, q _ (I2.hok.fresh (Nat.le_refl _))⟩
  cases List.mem_singleton.mp hb
  exact ⟨f0, f1, f2, f3, f4, f5⟩
end
section
variable {K : PySem.W.Frag} {ecl : Nat → Value} {m : List Addr} {h : Hd} {H : Hp} {Q : VK} {E : XK} {X : Cx}

/-! ### answers -/
theorem post_int {i : Int} (R : Rel K m h H) (p : Post K ecl m H (.ok (.int i) h) Q E) : Q (.int i) H := p m H _ (Step.refl m H) R rfl
theorem post_bl {i : Bool} (R : Rel K m h H) (p : Post K ecl m H (.ok (.bl i) h) Q E) : Q (.bl i) H := p m H _ (Step.refl m H) R rfl
theorem post_str {i : Str} (R : Rel K m h H) (p : Post K ecl m H (.ok (.str i) h) Q E) : Q (.str i) H := p m H _ (Step.refl m H) R rfl
theorem post_non (R : Rel K m h H) (p : Post K ecl m H (.ok .non h) Q E) : Q .non H := p m H _ (Step.refl m H) R rfl
theorem post_same {d : D} {v : V} (R : Rel K m h H) (q : Den K m H d v) (p : Post K ecl m H (.ok d h) Q E) : Q v H := p m H _ (Step.refl m H) R q
theorem post_tup {ds : List D} {vs : List V} (R : Rel K m h H) (q : DenL K m H ds vs) (p : Post K ecl m H (.ok (.tup ds) h) Q E) (a : Addr) (o : Obj) (na : H a = none) (no : o.dict = none) : Q (.ref a) (upd H a (.frz o (.tup vs))) :=
  p m _ _ (Step.side R na) (Rel.side R na) ⟨a, vs, rfl, .inl ⟨o, upd_same, no⟩, q.mono (Step.ext R (Step.side R na))⟩
theorem post_lst {ds : List D} {vs : List V} (R : Rel K m h H) (q : DenL K m H ds vs) (p : Post K ecl m H (.ok (.ref h.length) (h ++ [.lst ds])) Q E) (a : Addr) (na : H a = none) : Q (.ref a) (upd H a (.lst vs)) := by
  refine p (m ++ [a]) _ _ (Step.new R na) (Rel.new R na ⟨vs, upd_same, q.mono (Step.ext R (Step.new R na))⟩) ⟨a, rfl, ?_⟩
  rw [← R.len, List.getElem?_append_right (Nat.le_refl _), Nat.sub_self]
  rfl
theorem post_put {n : Nat} {a : Addr} {d : D} {v : V} {ds : List D} {vs : List V} (R : Rel K m h H) (ea : m[n]? = some a) (qv : Den K m H d v) (q : DenL K m H ds vs)
    (p : Post K ecl m H (.ok d (h.set n (.lst ds))) Q E) : Q v (upd H a (.lst vs)) := by
  have s : Step m H m (upd H a (.lst vs)) := Step.put (List.mem_of_getElem? ea)
  exact p m _ _ s (Rel.put R ea ⟨vs, upd_same, q.mono (Step.ext R s)⟩) (qv.mono (Step.ext R s))

/-! ### reading lists -/
theorem den_seqE {d : D} {v : V} {l : List D} (R : Rel K m h H) (q : Den K m H d v) (e : seqOf h d = some l) : ∃ p vs, v = .ref p ∧ (SqL K H p vs ∨ SqE K H p vs) ∧ DenL K m H l vs := by
  cases d with
  | tup l' =>
    cases (show some l' = some l from e)
    obtain ⟨p, vs, rfl, h1, h2⟩ := q
    exact ⟨p, vs, rfl, .inr h1, h2⟩
  | fl l' =>
    cases (show some l' = some l from e)
    obtain ⟨p, vs, rfl, h1, h2⟩ := q
    exact ⟨p, vs, rfl, .inl h1.l, h2⟩
  | ref k =>
    obtain ⟨a, rfl, ea⟩ := q
    simp only [seqOf] at e
    split at e <;> try (cases e; done)
    rename_i l' el
    cases e
    obtain ⟨vs, e1, e2⟩ := R.lst el ea
    exact ⟨a, vs, rfl, .inl (SqL.of e1), e2⟩
  | _ => cases e
theorem den_seq {d : D} {v : V} {l : List D} (R : Rel K m h H) (q : Den K m H d v) (e : seqOf h d = some l) : ∃ p vs, v = .ref p ∧ (SqL K H p vs ∨ SqT K H p vs) ∧ DenL K m H l vs := by
  obtain ⟨p, vs, rfl, h1, h2⟩ := den_seqE R q e
  exact ⟨p, vs, rfl, h1.imp id SqE.t, h2⟩
theorem den_list {d : D} {v : V} {l : List D} (R : Rel K m h H) (q : Den K m H d v) (e : listOf h d = some l) : ∃ p vs, v = .ref p ∧ SqL K H p vs ∧ DenL K m H l vs := by
  cases d with
  | fl l' =>
    cases (show some l' = some l from e)
    obtain ⟨p, vs, rfl, h1, h2⟩ := q
    exact ⟨p, vs, rfl, h1.l, h2⟩
  | ref k =>
    obtain ⟨a, rfl, ea⟩ := q
    simp only [listOf] at e
    split at e <;> try (cases e; done)
    rename_i l' el
    cases e
    obtain ⟨vs, e1, e2⟩ := R.lst el ea
    exact ⟨a, vs, rfl, SqL.of e1, e2⟩
  | _ => cases e
theorem den_ints : ∀ {l : List D} {vs : List V} {ns : List Int}, DenL K m H l vs → intsOf l = some ns → vs = ns.map V.int
  | [], vs, ns, q, e => by cases (show some [] = some ns from e); exact q
  | d :: r, vs, ns, q, e => by
    obtain ⟨v, vr, rfl, h1, h2⟩ := q
    cases d with
    | int i =>
      unfold intsOf at e
      cases e1 : intsOf r with
      | none => rw [e1] at e; cases e
      | some ms =>
        rw [e1] at e
        cases e
        rw [show v = V.int i from h1, den_ints h2 e1]
        rfl
    | _ => cases e
theorem den_bls : ∀ {l : List D} {vs : List V} {ns : List Bool}, DenL K m H l vs → blsOf l = some ns → vs = ns.map V.bl
  | [], vs, ns, q, e => by cases (show some [] = some ns from e); exact q
  | d :: r, vs, ns, q, e => by
    obtain ⟨v, vr, rfl, h1, h2⟩ := q
    cases d with
    | bl i =>
      unfold blsOf at e
      cases e1 : blsOf r with
      | none => rw [e1] at e; cases e
      | some ms =>
        rw [e1] at e
        cases e
        rw [show v = V.bl i from h1, den_bls h2 e1]
        rfl
    | _ => cases e
theorem den_strs : ∀ {l : List D} {vs : List V} {ns : List Str}, DenL K m H l vs → strsOf l = some ns → vs = ns.map V.str
  | [], vs, ns, q, e => by cases (show some [] = some ns from e); exact q
  | d :: r, vs, ns, q, e => by
    obtain ⟨v, vr, rfl, h1, h2⟩ := q
    cases d with
    | str i =>
      unfold strsOf at e
      cases e1 : strsOf r with
      | none => rw [e1] at e; cases e
      | some ms =>
        rw [e1] at e
        cases e
        rw [show v = V.str i from h1, den_strs h2 e1]
        rfl
    | _ => cases e
theorem denL_strs (m : List Addr) (H : Hp) : ∀ ys : List Str, DenL K m H (ys.map D.str) (ys.map V.str)
  | [] => rfl
  | y :: r => ⟨_, _, rfl, rfl, denL_strs m H r⟩

/-! ### == -/
theorem mapM_cons {α β : Type} {f : α → Option β} {a : α} {l : List α} {r : List β} (e : (a :: l).mapM f = some r) : ∃ b t, f a = some b ∧ l.mapM f = some t ∧ r = b :: t := by
  rw [List.mapM_cons] at e
  cases e1 : f a with
  | none => rw [e1] at e; cases e
  | some b =>
    rw [e1] at e
    cases e2 : l.mapM f with
    | none => rw [e2] at e; cases e
    | some t =>
      rw [e2] at e
      cases e
      exact ⟨b, t, rfl, rfl, rfl⟩
theorem den_dpAll {f : D → Option PyData} (hf : ∀ d v p, Den K m H d v → f d = some p → Dp K H v p) : ∀ {l : List D} {vs : List V} {ps : List PyData}, DenL K m H l vs → l.mapM f = some ps → DpAll K H vs ps
  | [], vs, ps, q, e => by
    have e' : some [] = some ps := by simpa using e
    cases e'
    cases (show vs = [] from q)
    exact .nil
  | d :: r, vs, ps, q, e => by
    obtain ⟨v, vr, rfl, h1, h2⟩ := q
    obtain ⟨b, t, e1, e2, rfl⟩ := mapM_cons e
    exact .cons (hf d v b h1 e1) (den_dpAll hf h2 e2)
theorem den_dp (R : Rel K m h H) : ∀ (n : Nat) (d : D) (v : V) (p : PyData), Den K m H d v → toP h n d = some p → Dp K H v p
  | 0, _, _, _, _, e => by cases e
  | n + 1, d, v, p, q, e => by
    have ih := den_dp R n
    cases d with
    | non => cases e; cases (show v = _ from q); exact .non
    | bl b => cases e; cases (show v = _ from q); exact .bl b
    | int i => cases e; cases (show v = _ from q); exact .int i
    | str s => cases e; cases (show v = _ from q); exact .str s
    | tup l =>
      obtain ⟨a, vs, rfl, h1, h2⟩ := q
      unfold toP at e
      cases e1 : l.mapM (toP h n) with
      | none => simp only [e1] at e; cases e
      | some ps => simp only [e1] at e; cases e; exact .tup h1.t (den_dpAll ih h2 e1)
    | fl l =>
      obtain ⟨a, vs, rfl, h1, h2⟩ := q
      unfold toP at e
      cases e1 : l.mapM (toP h n) with
      | none => simp only [e1] at e; cases e
      | some ps => simp only [e1] at e; cases e; exact .lst h1.l (den_dpAll ih h2 e1)
    | ref k =>
      obtain ⟨a, rfl, ea⟩ := q
      unfold toP at e
      simp only at e
      split at e <;> try (cases e; done)
      rename_i l el
      obtain ⟨vs, e1, e2⟩ := R.lst el ea
      cases e3 : l.mapM (toP h n) with
      | none => rw [e3] at e; cases e
      | some ps => rw [e3] at e; cases e; exact .lst (SqL.of e1) (den_dpAll ih e2 e3)
theorem plain_all {f : D → Option PyData} {n : Nat} (hf : ∀ d p, f d = some p → p.plain = true ∧ p.depth ≤ n) : ∀ {l : List D} {ps : List PyData}, l.mapM f = some ps → PyData.plainAll ps = true ∧ PyData.depthAll ps ≤ n
  | [], ps, e => by
    have e' : some [] = some ps := by simpa using e
    cases e'
    exact ⟨rfl, Nat.zero_le _⟩
  | d :: r, ps, e => by
    obtain ⟨b, t, e1, e2, rfl⟩ := mapM_cons e
    obtain ⟨h1, h2⟩ := hf d b e1
    obtain ⟨h3, h4⟩ := plain_all hf e2
    refine ⟨?_, ?_⟩
    · show (b.plain && PyData.plainAll t) = true
      rw [h1, h3]; rfl
    · show max b.depth (PyData.depthAll t) ≤ n
      omega
theorem toP_plain (h : Hd) : ∀ (n : Nat) (d : D) (p : PyData), toP h n d = some p → p.plain = true ∧ p.depth ≤ n
  | 0, _, _, e => by cases e
  | n + 1, d, p, e => by
    have ih := toP_plain h n
    cases d with
    | non => cases e; exact ⟨rfl, Nat.zero_le _⟩
    | bl b => cases e; exact ⟨rfl, Nat.zero_le _⟩
    | int i => cases e; exact ⟨rfl, Nat.zero_le _⟩
    | str s => cases e; exact ⟨rfl, Nat.zero_le _⟩
    | tup l =>
      unfold toP at e
      cases e1 : l.mapM (toP h n) with
      | none => simp only [e1] at e; cases e
      | some ps =>
        simp only [e1] at e
        cases e
        obtain ⟨a, b⟩ := plain_all ih e1
        exact ⟨a, Nat.succ_le_succ b⟩
    | fl l =>
      unfold toP at e
      cases e1 : l.mapM (toP h n) with
      | none => simp only [e1] at e; cases e
      | some ps =>
        simp only [e1] at e
        cases e
        obtain ⟨a, b⟩ := plain_all ih e1
        exact ⟨a, Nat.succ_le_succ b⟩
    | ref k =>
      unfold toP at e
      simp only at e
      split at e <;> try (cases e; done)
      rename_i l el
      cases e1 : l.mapM (toP h n) with
      | none => simp only [e1] at e; cases e
      | some ps =>
        simp only [e1] at e
        cases e
        obtain ⟨a, b⟩ := plain_all ih e1
        exact ⟨a, Nat.succ_le_succ b⟩
theorem den_eq {dx dy : D} {x y : V} {b : Bool} (R : Rel K m h H) (hx : Den K m H dx x) (hy : Den K m H dy y) (e : eqS h dx dy = some b) :
    ∃ d e', Dp K H x d ∧ Dp K H y e' ∧ (d.plain = true ∧ d.depth ≤ 62) ∧ (e'.plain = true ∧ e'.depth ≤ 62) ∧ PyData.eqv d e' = b := by
  unfold eqS at e
  split at e
  · rename_i p q e1 e2
    cases e
    exact ⟨p, q, den_dp R _ _ _ _ hx e1, den_dp R _ _ _ _ hy e2, toP_plain h _ _ _ e1, toP_plain h _ _ _ e2, rfl⟩
  · cases e
/-- == and != of data without dicts -/
def rPl (K : PySem.W.Frag) (f : Bool → Bool) : R2 := fun x y H Q => ∃ d e, Dp K H x d ∧ Dp K H y e ∧ (d.plain = true ∧ d.depth ≤ 62) ∧ (e.plain = true ∧ e.depth ≤ 62) ∧ Q (.bl (f (PyData.eqv d e))) H
theorem op_eqPl (hu : X.A.units + 64 < cLine) : OpR X (compareOp .Eq) (rPl X.K fun b => b) := by
  rintro pins s σ H x y v u Q I rx ry ⟨d, e, hd, he, pd, pe, q⟩
  obtain ⟨as, r1⟩ := Dp.reads I d x v hd rx
  obtain ⟨bs, r2⟩ := Dp.reads I e y u he ry
  exact SeqAt.eq_plain r1 r2 pd.1 pe.1 (by omega) ⟨.bl _, H, I, rfl, q⟩
theorem op_nePl (hu : X.A.units + 64 < cLine) : OpR X (compareOp .NotEq) (rPl X.K fun b => !b) := by
  rintro pins s σ H x y v u Q I rx ry ⟨d, e, hd, he, pd, pe, q⟩
  obtain ⟨as, r1⟩ := Dp.reads I d x v hd rx
  obtain ⟨bs, r2⟩ := Dp.reads I e y u he ry
  exact SeqAt.ne_plain r1 r2 pd.1 pe.1 (by omega) ⟨.bl _, H, I, rfl, q⟩
theorem den_scal {dx dy : D} {x y : V} {b : Bool} (hx : Den K m H dx x) (hy : Den K m H dy y) (e : scalD dx dy = some b) : scal x y = true ∧ decide (x = y) = b := by
  unfold scalD at e
  split at e <;> first
    | (cases (show x = _ from hx); cases (show y = _ from hy); cases e; exact ⟨rfl, by simp⟩)
    | (cases e; done)

/-! ### two-place operators -/
theorem op_binD (op : Operator) : OpR X (binaryOp op) (rD X.K ecl (evBin op)) := by
  intro pins s σ H x y v u Q I rx ry hr
  obtain ⟨m, hd, dx, dy, E, R, hx, hy, p⟩ := hr
  unfold evBin at p
  split at p
  · cases (show x = _ from hx); cases (show y = _ from hy)
    exact op_add pins s σ H _ _ v u Q I rx ry ⟨_, _, rfl, rfl, post_int R p⟩
  · cases (show x = _ from hx); cases (show y = _ from hy)
    exact op_sub pins s σ H _ _ v u Q I rx ry ⟨_, _, rfl, rfl, post_int R p⟩
  · cases (show x = _ from hx); cases (show y = _ from hy)
    split at p
    · rename_i hc
      exact op_mul pins s σ H _ _ v u Q I rx ry ⟨_, _, rfl, rfl, hc, post_int R p⟩
    · exact p.elim
  · cases (show x = _ from hx); cases (show y = _ from hy)
    split at p
    · rename_i hc
      exact op_fdivN pins s σ H _ _ v u Q I rx ry ⟨_, _, rfl, rfl, hc, post_int R p⟩
    · exact p.elim
  · cases (show x = _ from hx); cases (show y = _ from hy)
    split at p
    · rename_i hc
      exact op_modN pins s σ H _ _ v u Q I rx ry ⟨_, _, rfl, rfl, hc, post_int R p⟩
    · exact p.elim
  · cases (show x = _ from hx); cases (show y = _ from hy)
    split at p
    · rename_i hc
      exact op_pow pins s σ H _ _ v u Q I rx ry ⟨_, _, rfl, rfl, hc, post_int R p⟩
    · exact p.elim
  · cases (show x = _ from hx); cases (show y = _ from hy)
    split at p
    · rename_i hc
      exact op_add_str pins s σ H _ _ v u Q I rx ry ⟨_, _, rfl, rfl, lim_le hc, post_str R p⟩
    · exact p.elim
  · obtain ⟨a, vs, rfl, h1, h2⟩ := hx
    obtain ⟨b, ws, rfl, k1, k2⟩ := hy
    split at p
    · rename_i hc
      refine catE pins s σ H _ _ v u Q I rx ry ⟨a, b, vs, ws, rfl, rfl, h1.t, k1.t, by rw [← h2.len, ← k2.len]; exact lim_le hc, fun e => ?_, fun _ e => ?_, fun _ _ q o nq no => ?_⟩
      · subst e
        have e0 := h2.len
        have e1 : _ = [] := List.eq_nil_of_length_eq_zero e0
        subst e1
        exact post_same R (show Den X.K m H (.tup ([] ++ _)) (.ref b) from ⟨b, ws, rfl, k1, by rw [List.nil_append]; exact k2⟩) p
      · subst e
        have e0 := k2.len
        have e1 : _ = [] := List.eq_nil_of_length_eq_zero e0
        subst e1
        exact post_same R (show Den X.K m H (.tup (_ ++ [])) (.ref a) from ⟨a, vs, rfl, h1, by rw [List.append_nil]; exact h2⟩) p
      · exact post_tup R (h2.app k2) p q o nq no
    · exact p.elim
  · obtain ⟨a, rfl, ea⟩ := hx
    obtain ⟨b, rfl, eb⟩ := hy
    split at p
    · rename_i l1 l2 e1 e2
      split at p
      · rename_i hc
        obtain ⟨vs, q1, q2⟩ := R.lst e1 ea
        obtain ⟨ws, k1, k2⟩ := R.lst e2 eb
        exact op_cat pins s σ H _ _ v u Q I rx ry ⟨a, b, vs, ws, rfl, rfl, q1, k1, by rw [← q2.len, ← k2.len]; exact lim_le hc, fun q nq => post_lst R (q2.app k2) p q nq⟩
      · exact p.elim
    · exact p.elim
  · exact p.elim

theorem flat_V {d : D} {v : V} (q : Den K m H d v) (f : flatD d = true) : flatV v = true := by
  cases d with
  | non => cases (show v = _ from q); rfl
  | bl b => cases (show v = _ from q); rfl
  | int b => cases (show v = _ from q); rfl
  | str b => cases (show v = _ from q); rfl
  | _ => cases f
theorem eqF_V {d e : D} {v w : V} (q : Den K m H d v) (r : Den K m H e w) (f : flatD d = true) (g : flatD e = true) : eqV v w = eqF d e := by
  cases d <;> first | (cases f; done) | (cases (show v = _ from q); cases e <;> first | (cases g; done) | (cases (show w = _ from r); rfl))
theorem flats_V : ∀ {l : List D} {vs : List V}, DenL K m H l vs → l.all flatD = true → vs.all flatV = true
  | [], _, q, _ => by cases (show _ = [] from q); rfl
  | d :: r, _, q, f => by
    obtain ⟨v, vr, rfl, h1, h2⟩ := q
    rw [List.all_cons, Bool.and_eq_true] at f ⊢
    exact ⟨flat_V h1 f.1, flats_V h2 f.2⟩
theorem inF_V {e : D} {w : V} (r : Den K m H e w) (g : flatD e = true) : ∀ {l : List D} {vs : List V}, DenL K m H l vs → l.all flatD = true → inV w vs = l.any fun z => eqF z e
  | [], _, q, _ => by cases (show _ = [] from q); rfl
  | d :: t, _, q, f => by
    obtain ⟨v, vr, rfl, h1, h2⟩ := q
    rw [List.all_cons, Bool.and_eq_true] at f
    show (eqV v w || inV w vr) = (eqF d e || t.any fun z => eqF z e)
    rw [eqF_V h1 r f.1 g, inF_V r g h2 f.2]

theorem op_inD' (neg : Bool) {pins : List (Addr × Obj)} {s : Shared} {σ : L2.St} {x y : V} {v u : Value} {dx dy : D} {b : Bool} (I : L2.Inv X pins σ H s) (rx : RelV x v) (ry : RelV y u) (R : Rel X.K m h H) (hx : Den X.K m H dx x) (hy : Den X.K m H dy y)
    (e : inD h dx dy = some b) (q : Q (.bl (if neg then !b else b)) H) : wpAny (model X.prog X.w) X.A (compareOp (if neg then .NotIn else .In) v u) (EP X pins σ Q) X.xe s := by
  have seq : ∀ {p : Addr} {l : List D} {vs : List V}, y = .ref p → (SqL X.K H p vs ∨ SqT X.K H p vs) → DenL X.K m H l vs → (if flatD dx = true ∧ l.all flatD = true then some (l.any fun z => eqF z dx) else none) = some b →
      wpAny (model X.prog X.w) X.A (compareOp (if neg then .NotIn else .In) v u) (EP X pins σ Q) X.xe s := fun {p l vs} ey hs hl hb => by
    subst ey
    split at hb
    · rename_i hf
      cases hb
      have ei := inF_V hx hf.1 hl hf.2
      cases neg with
      | true => exact op_notIn_seq pins s σ H _ _ v u Q I rx ry ⟨p, vs, rfl, hs, flat_V hx hf.1, flats_V hl hf.2, by rw [ei]; exact q⟩
      | false => exact op_in_seq pins s σ H _ _ v u Q I rx ry ⟨p, vs, rfl, hs, flat_V hx hf.1, flats_V hl hf.2, by rw [ei]; exact q⟩
    · cases hb
  cases dy with
  | tup l =>
    obtain ⟨p, vs, rfl, h1, h2⟩ := hy
    exact seq rfl (.inr h1.t) h2 e
  | fl l =>
    obtain ⟨p, vs, rfl, h1, h2⟩ := hy
    exact seq rfl (.inl h1.l) h2 e
  | ref k =>
    obtain ⟨a, rfl, ea⟩ := hy
    unfold inD at e
    simp only at e
    split at e <;> try (cases e; done)
    rename_i l el
    obtain ⟨vs, e1, e2⟩ := R.lst el ea
    exact seq rfl (.inl (SqL.of e1)) e2 e
  | str z =>
    cases (show y = _ from hy)
    unfold inD at e
    simp only at e
    split at e <;> try (cases e; done)
    rename_i w
    split at e <;> try (cases e; done)
    rename_i c ec
    cases e
    cases (show x = _ from hx)
    have ew : w = ⟨#[c]⟩ := by
      obtain ⟨cs⟩ := w
      have : cs = #[c] := by simpa using congrArg List.toArray ec
      rw [this]
    subst ew
    cases neg with
    | true => exact op_notIn_sign pins s σ H _ _ v u Q I rx ry ⟨c, z, rfl, rfl, q⟩
    | false => exact op_in_sign pins s σ H _ _ v u Q I rx ry ⟨c, z, rfl, rfl, q⟩
  | _ => cases e

theorem op_cmpD (hu : X.A.units + 64 < cLine) (op : CmpOp) : OpR X (compareOp op) (rD X.K ecl (evCmp op)) := by
  intro pins s σ H x y v u Q I rx ry hr
  obtain ⟨m, hd, dx, dy, E, R, hx, hy, p⟩ := hr
  unfold evCmp at p
  cases op with
  | Eq =>
    simp only at p
    cases e : eqD hd dx dy with
    | none => rw [e] at p; exact p.elim
    | some b =>
      rw [e] at p
      unfold eqD at e
      split at e
      · rename_i c ec
        cases e
        obtain ⟨hs, hd⟩ := den_scal hx hy ec
        exact op_eq pins s σ H x y v u Q I rx ry ⟨hs, by rw [hd]; exact post_bl R p⟩
      obtain ⟨d1, d2, a1, a2, a3, a4, a5⟩ := den_eq R hx hy e
      exact op_eqPl hu pins s σ H x y v u Q I rx ry ⟨d1, d2, a1, a2, a3, a4, by rw [a5]; exact post_bl R p⟩
  | NotEq =>
    simp only at p
    cases e : eqD hd dx dy with
    | none => rw [e] at p; exact p.elim
    | some b =>
      rw [e] at p
      unfold eqD at e
      split at e
      · rename_i c ec
        cases e
        obtain ⟨hs, hd⟩ := den_scal hx hy ec
        exact op_ne pins s σ H x y v u Q I rx ry ⟨hs, by rw [hd]; exact post_bl R p⟩
      obtain ⟨d1, d2, a1, a2, a3, a4, a5⟩ := den_eq R hx hy e
      exact op_nePl hu pins s σ H x y v u Q I rx ry ⟨d1, d2, a1, a2, a3, a4, by rw [a5]; exact post_bl R p⟩
  | Lt =>
    simp only at p
    split at p
    · cases (show x = _ from hx); cases (show y = _ from hy)
      exact op_lt pins s σ H _ _ v u Q I rx ry ⟨_, _, rfl, rfl, post_bl R p⟩
    · cases (show x = _ from hx); cases (show y = _ from hy)
      exact op_lt_str pins s σ H _ _ v u Q I rx ry ⟨_, _, rfl, rfl, post_bl R p⟩
    · exact p.elim
  | LtE =>
    simp only at p
    split at p
    · cases (show x = _ from hx); cases (show y = _ from hy)
      exact op_le pins s σ H _ _ v u Q I rx ry ⟨_, _, rfl, rfl, post_bl R p⟩
    · exact p.elim
  | Gt =>
    simp only at p
    split at p
    · cases (show x = _ from hx); cases (show y = _ from hy)
      exact op_gt pins s σ H _ _ v u Q I rx ry ⟨_, _, rfl, rfl, post_bl R p⟩
    · exact p.elim
  | GtE =>
    simp only at p
    split at p
    · cases (show x = _ from hx); cases (show y = _ from hy)
      exact op_ge pins s σ H _ _ v u Q I rx ry ⟨_, _, rfl, rfl, post_bl R p⟩
    · exact p.elim
  | In =>
    simp only at p
    cases e : inD hd dx dy with
    | none => rw [e] at p; exact p.elim
    | some b => rw [e] at p; exact op_inD' false I rx ry R hx hy e (post_bl R p)
  | NotIn =>
    simp only at p
    cases e : inD hd dx dy with
    | none => rw [e] at p; exact p.elim
    | some b => rw [e] at p; exact op_inD' true I rx ry R hx hy e (post_bl R p)
  | Is =>
    simp only at p
    split at p
    · cases (show y = _ from hy)
      refine op_isN pins s σ H x _ v u Q I rx ry ⟨rfl, ?_⟩
      have q := post_bl R p
      cases dx with
      | non => cases (show x = _ from hx); exact q
      | bl b => cases (show x = _ from hx); exact q
      | int b => cases (show x = _ from hx); exact q
      | str b => cases (show x = _ from hx); exact q
      | tup l => obtain ⟨_, _, rfl, _⟩ := hx; exact q
      | fl l => obtain ⟨_, _, rfl, _⟩ := hx; exact q
      | ref l => obtain ⟨_, rfl, _⟩ := hx; exact q
    · cases (show y = _ from hy)
      split at p
      · cases (show x = _ from hx)
        exact op_isBl pins s σ H _ _ v u Q I rx ry ⟨_, _, rfl, rfl, post_bl R p⟩
      · exact p.elim
    · exact p.elim
  | IsNot =>
    simp only at p
    split at p
    · cases (show y = _ from hy)
      refine op_notN pins s σ H x _ v u Q I rx ry ⟨rfl, ?_⟩
      have q := post_bl R p
      cases dx with
      | non => cases (show x = _ from hx); exact q
      | bl b => cases (show x = _ from hx); exact q
      | int b => cases (show x = _ from hx); exact q
      | str b => cases (show x = _ from hx); exact q
      | tup l => obtain ⟨_, _, rfl, _⟩ := hx; exact q
      | fl l => obtain ⟨_, _, rfl, _⟩ := hx; exact q
      | ref l => obtain ⟨_, rfl, _⟩ := hx; exact q
    · cases (show y = _ from hy)
      split at p
      · cases (show x = _ from hx)
        exact op_notBl pins s σ H _ _ v u Q I rx ry ⟨_, _, rfl, rfl, post_bl R p⟩
      · exact p.elim
    · exact p.elim
end
end Eg
set_option maxHeartbeats 4000000
/-! Part 4: subscripts, truth, built-ins, methods. -/
namespace Eg
open PySem PySem.Spec PyProof.Rows L2

section
variable {K : PySem.W.Frag} {ecl : Nat → Value} {m : List Addr} {h : Hd} {H : Hp} {Q : VK} {E : XK} {X : Cx}

theorem atI_den {l : List D} {vs : List V} {i : Int} {d : D} (q : DenL K m H l vs) (e : atI l i = some d) : ∃ v, atI vs i = some v ∧ Den K m H d v := by
  unfold atI at e ⊢
  rw [← q.len]
  cases e1 : ixN l.length i with
  | none => rw [e1] at e; cases e
  | some j =>
    rw [e1] at e
    exact q.get e
theorem post_okd {o : Option D} (p : Post K ecl m H (okd o h) Q E) : ∃ d, o = some d ∧ Post K ecl m H (.ok d h) Q E := by
  cases o with
  | none => exact p.elim
  | some d => exact ⟨d, rfl, p⟩

/-- xs[i] of a list, a tuple, a text -/
theorem ix_seqD : IxR X (fun x y H Q => ∃ m hd dx dy E, Rel X.K m hd H ∧ Den X.K m H dx x ∧ Den X.K m H dy y ∧ (∀ k kvs, dx = .ref k → hd[k]? = some (.dic kvs) → False) ∧ Post X.K ecl m H (evIx dx dy hd) Q E) := by
  intro value slice pins s σ H x y v u Q I rx ry hr hs
  obtain ⟨m, hd, dx, dy, E, R, hx, hy, nd, p⟩ := hr
  unfold evIx at p
  split at p
  · split at p
    · cases (show y = _ from hy)
      obtain ⟨a, vs, rfl, h1, h2⟩ := hx
      obtain ⟨d, e, p⟩ := post_okd p
      obtain ⟨w, e1, q⟩ := atI_den h2 e
      exact ix_tup value slice pins s σ H _ _ v u Q I rx ry ⟨a, vs, _, w, rfl, rfl, h1.t, e1, post_same R q p⟩ hs
    · exact p.elim
  · split at p
    · cases (show y = _ from hy)
      obtain ⟨a, vs, rfl, h1, h2⟩ := hx
      obtain ⟨d, e, p⟩ := post_okd p
      obtain ⟨w, e1, q⟩ := atI_den h2 e
      exact ix_list value slice pins s σ H _ _ v u Q I rx ry ⟨a, vs, _, w, rfl, rfl, h1.l, e1, post_same R q p⟩ hs
    · exact p.elim
  · split at p
    · cases (show x = _ from hx); cases (show y = _ from hy)
      split at p
      · rename_i hc
        obtain ⟨d, e, p⟩ := post_okd p
        cases e1 : atI (Array.toList _) _ with
        | none => rw [e1] at e; cases e
        | some c =>
          rw [e1] at e
          cases e
          exact ix_str value slice pins s σ H _ _ v u Q I rx ry ⟨_, _, c, rfl, rfl, lim_le hc, e1, post_str R p⟩ hs
      · exact p.elim
    · exact p.elim
  · obtain ⟨a, rfl, ea⟩ := hx
    split at p
    · rename_i l el
      split at p
      · cases (show y = _ from hy)
        obtain ⟨vs, k1, k2⟩ := R.lst el ea
        obtain ⟨d, e, p⟩ := post_okd p
        obtain ⟨w, e1, q⟩ := atI_den k2 e
        exact ix_list value slice pins s σ H _ _ v u Q I rx ry ⟨a, vs, _, w, rfl, rfl, SqL.of k1, e1, post_same R q p⟩ hs
      · exact p.elim
    · rename_i kvs el
      exact (nd _ _ rfl el).elim
    · exact p.elim
  · exact p.elim

theorem lookK_den : ∀ {kvs : List (Key × D)} {ws : List (Key × V)} {k : Key} {d : D}, ws.map (·.1) = kvs.map (·.1) → DenL K m H (kvs.map (·.2)) (ws.map (·.2)) → lookK kvs k = some d → ∃ v, valV ws k = some v ∧ Den K m H d v
  | [], _, _, _, _, _, e => by cases e
  | (k0, d0) :: r, ws, k, d, hk, hd, e => by
    cases ws with
    | nil => cases hk
    | cons w ws =>
      obtain ⟨k1, v1⟩ := w
      obtain ⟨v, vr, e1, h1, h2⟩ := hd
      have hk' : k1 = k0 ∧ ws.map (·.1) = r.map (·.1) := by simpa using hk
      have e1' : v1 = v ∧ ws.map (·.2) = vr := by simpa using e1
      obtain ⟨rfl, hk2⟩ := hk'
      obtain ⟨rfl, rfl⟩ := e1'
      unfold lookK at e
      unfold valV
      rw [List.find?_cons] at e ⊢
      by_cases hc : k1 = k
      · simp only [hc, decide_true] at e ⊢
        cases e
        exact ⟨v1, rfl, h1⟩
      · simp only [hc, decide_false] at e ⊢
        exact lookK_den hk2 h2 e
theorem dget_den {k : Nat} {kvs : List (Key × D)} {x y : V} {dy d : D} {key : Key} (R : Rel K m h H) (hx : Den K m H (.ref k) x) (hy : Den K m H dy y) (el : h[k]? = some (.dic kvs)) (ek : toKey dy = some key) (e : lookK kvs key = some d) :
    ∃ a v, x = .ref a ∧ DGet H a y (some v) ∧ Den K m H d v := by
  obtain ⟨a, rfl, ea⟩ := hx
  obtain ⟨ws, k1, k2, k3⟩ := R.dic el ea
  obtain ⟨v, e1, q⟩ := lookK_den k2 k3 e
  have ey : y = kV key := by
    cases dy with
    | int i => cases ek; exact hy
    | str i => cases ek; exact hy
    | _ => cases ek
  refine ⟨a, v, rfl, ?_, q⟩
  rw [ey, ← e1]
  exact DGet.k k1

/-- slices -/
theorem sl_den : SlR X (fun x lo hi H Q => ∃ m hd dx E, Rel X.K m hd H ∧ Den X.K m H dx x ∧ Post X.K ecl m H (evSl dx lo hi hd) Q E) := by
  intro pins s σ H x v vl vu lo hi sl Q I rx hs pl pu hr
  obtain ⟨m, hd, dx, E, R, hx, p⟩ := hr
  unfold evSl at p
  split at p
  · obtain ⟨a, vs, rfl, h1, h2⟩ := hx
    refine cutE pins s σ H _ v vl vu lo hi sl Q I rx hs pl pu ⟨a, vs, rfl, h1.t, fun hw => ?_, fun _ q o nq no => post_tup R (h2.cut lo hi) p q o nq no⟩
    rename_i l
    have ec : cutL l lo hi = l := by
      unfold cutL
      rw [← h2.len] at hw
      rw [hw.1, hw.2, List.drop_zero, Nat.sub_zero, List.take_length]
    rw [ec] at p
    exact post_same R (show Den X.K m H (.tup _) (.ref a) from ⟨a, vs, rfl, h1, h2⟩) p
  · cases (show x = _ from hx)
    split at p
    · rename_i hc
      exact sl_str pins s σ H _ v vl vu lo hi sl Q I rx hs pl pu ⟨_, rfl, lim_le hc, post_str R p⟩
    · exact p.elim
  · obtain ⟨a, vs, rfl, h1, h2⟩ := hx
    exact sl_list pins s σ H _ v vl vu lo hi sl Q I rx hs pl pu ⟨a, vs, rfl, h1.l, fun q nq => post_lst R (h2.cut lo hi) p q nq⟩
  · obtain ⟨a, rfl, ea⟩ := hx
    split at p
    · rename_i l el
      obtain ⟨vs, k1, k2⟩ := R.lst el ea
      exact sl_list pins s σ H _ v vl vu lo hi sl Q I rx hs pl pu ⟨a, vs, rfl, SqL.of k1, fun q nq => post_lst R (k2.cut lo hi) p q nq⟩
    · exact p.elim
  · exact p.elim

/-! ### truth -/
theorem emp_den {l : List D} {vs : List V} (q : DenL K m H l vs) : l.isEmpty = vs.isEmpty := by
  cases l with
  | nil => cases (show vs = [] from q); rfl
  | cons d r => obtain ⟨v, vr, rfl, _⟩ := q; rfl
theorem tru_den {d : D} {v : V} {b : Bool} (R : Rel K m h H) (q : Den K m H d v) (e : truD h d = some b) : TruV K v H b := by
  cases d with
  | non => cases (show v = _ from q); cases e; rfl
  | bl i => cases (show v = _ from q); cases e; rfl
  | int i => cases (show v = _ from q); cases e; rfl
  | str i =>
    cases (show v = _ from q)
    simp only [truD] at e
    split at e
    · rename_i hc
      cases e
      exact ⟨lim_le hc, rfl⟩
    · cases e
  | tup l =>
    obtain ⟨p, vs, rfl, h1, h2⟩ := q
    cases e
    exact .inr (.inl ⟨vs, h1.t, by rw [emp_den h2]⟩)
  | fl l =>
    obtain ⟨p, vs, rfl, h1, h2⟩ := q
    cases e
    exact .inl ⟨vs, h1.l, by rw [emp_den h2]⟩
  | ref k =>
    obtain ⟨a, rfl, ea⟩ := q
    simp only [truD] at e
    split at e
    · rename_i l el
      cases e
      obtain ⟨vs, k1, k2⟩ := R.lst el ea
      exact .inl ⟨vs, SqL.of k1, by rw [emp_den k2]⟩
    · rename_i l el
      cases e
      obtain ⟨ws, k1, k2, k3⟩ := R.dic el ea
      refine .inr (.inr ⟨ws, k1, ?_⟩)
      have z := emp_den k3
      simpa using z
    · cases e

/-! ### isinstance -/
def Ty.v : Ty → String
  | .str => "str" | .int => "int" | .bool => "bool" | .tuple => "tuple" | .list => "list" | .dict => "dict"
theorem kit_all (K : PySem.W.Frag) (T : String) (t : Ty) (hT : T ∈ ["NoneType", "bool", "int", "str", "tuple", "list", "dict"]) :
    PySem.W.kitOne K (.type T) (.type t.v) = some (decide (T = t.v) || (decide (T = "bool") && decide (t = .int))) := by
  simp only [List.mem_cons, List.mem_nil_iff, or_false] at hT
  rcases hT with rfl | rfl | rfl | rfl | rfl | rfl | rfl <;> cases t <;> first | rfl | decide +kernel
theorem isi_den {d : D} {v : V} {t : Ty} {b : Bool} (R : Rel K m h H) (q : Den K m H d v) (e : isiD h d t = some b) : ∃ T, TyX K H v (.type T) ∧ PySem.W.kitOne K (.type T) (.type t.v) = some b := by
  have tupT : ∀ {p : Addr} {vs : List V}, SqT K H p vs → TyX K H (.ref p) (.type "tuple") := fun {p vs} hs => by
    rcases hs with (hs | ⟨o, hs⟩) | ⟨o, _, _, hk, hc, _⟩
    · exact .base (.tup hs)
    · exact .fTuple hs
    · exact .kTuple hk hc
  have lstT : ∀ {p : Addr} {vs : List V}, SqL K H p vs → TyX K H (.ref p) (.type "list") := fun {p vs} hs => by
    rcases hs with (hs | ⟨o, hs⟩) | ⟨o, _, _, hk, hc, _⟩
    · exact .base (.lst hs)
    · exact .base (.frz hs)
    · exact .kList hk hc
  cases d with
  | non => cases (show v = _ from q); cases e; exact ⟨_, .base .non, by rw [kit_all K _ _ (by decide)]; cases t <;> decide⟩
  | bl i => cases (show v = _ from q); cases e; exact ⟨_, .base (.bl i), by rw [kit_all K _ _ (by decide)]; cases t <;> decide⟩
  | int i => cases (show v = _ from q); cases e; exact ⟨_, .base (.int i), by rw [kit_all K _ _ (by decide)]; cases t <;> decide⟩
  | str i => cases (show v = _ from q); cases e; exact ⟨_, .base (.str i), by rw [kit_all K _ _ (by decide)]; cases t <;> decide⟩
  | tup l =>
    obtain ⟨p, vs, rfl, h1, h2⟩ := q
    cases e
    exact ⟨_, tupT h1.t, by rw [kit_all K _ _ (by decide)]; cases t <;> decide⟩
  | fl l =>
    obtain ⟨p, vs, rfl, h1, h2⟩ := q
    cases e
    exact ⟨_, lstT h1.l, by rw [kit_all K _ _ (by decide)]; cases t <;> decide⟩
  | ref k =>
    obtain ⟨a, rfl, ea⟩ := q
    simp only [isiD] at e
    split at e
    · rename_i l el
      cases e
      obtain ⟨vs, k1, k2⟩ := R.lst el ea
      exact ⟨_, lstT (SqL.of k1), by rw [kit_all K _ _ (by decide)]; cases t <;> decide⟩
    · rename_i l el
      cases e
      obtain ⟨ws, k1, k2, k3⟩ := R.dic el ea
      exact ⟨_, .base (.dK k1), by rw [kit_all K _ _ (by decide)]; cases t <;> decide⟩
    · cases e

/-! ### built-ins -/
def Bi.id : Bi → Value
  | .len => .builtin "len" | .int => .type "int" | .abs => .builtin "abs" | .str => .type "str" | .min => .builtin "min" | .max => .builtin "max"
  | .sum => .builtin "sum" | .list => .type "list" | .tuple => .type "tuple" | .all => .builtin "all" | .any => .builtin "any" | .rev => .none
theorem one_den {xs : List V} {d : D} (q : DenL K m H [d] xs) : ∃ v, xs = [v] ∧ Den K m H d v := by
  obtain ⟨v, r, rfl, h1, h2⟩ := q
  cases (show r = [] from h2)
  exact ⟨v, rfl, h1⟩
theorem two_den {xs : List V} {d e : D} (q : DenL K m H [d, e] xs) : ∃ v w, xs = [v, w] ∧ Den K m H d v ∧ Den K m H e w := by
  obtain ⟨v, r, rfl, h1, h2⟩ := q
  obtain ⟨w, rfl, h3⟩ := one_den h2
  exact ⟨v, w, rfl, h1, h3⟩
theorem zero_den {xs : List V} (q : DenL K m H [] xs) : xs = [] := q
theorem bi_len : CallR X (.builtin "len") (rC X.K ecl (evBi .len)) := by
  intro pins s σ H xs us Q I r hr
  obtain ⟨m, hd, ds, E, R, hx, p⟩ := hr
  unfold evBi at p
  split at p <;> first | (exact p.elim) | skip
  all_goals first | (rename_i hb; cases hb; done) | (rename_i _ hb; cases hb; done) | (rename_i _ _ hb; cases hb; done) | skip
  rename_i x _
  obtain ⟨v, rfl, q⟩ := one_den hx
  obtain ⟨d, e, p⟩ := post_okd p
  cases e1 : lenD hd x with
  | none => rw [e1] at e; cases e
  | some n =>
    rw [e1] at e
    cases e
    have fin := post_int R p
    cases x with
    | str z =>
      cases (show v = _ from q)
      simp only [lenD] at e1
      split at e1
      · rename_i hc
        cases e1
        exact call_len pins s σ H _ us Q I r ⟨_, _, rfl, ⟨lim_le hc, rfl⟩, fin⟩
      · cases e1
    | tup l =>
      obtain ⟨a, vs, rfl, h1, h2⟩ := q
      cases e1
      exact call_len pins s σ H _ us Q I r ⟨_, _, rfl, .inr ⟨vs, h1.t, h2.len⟩, fin⟩
    | fl l =>
      obtain ⟨a, vs, rfl, h1, h2⟩ := q
      cases e1
      exact call_len pins s σ H _ us Q I r ⟨_, _, rfl, .inl ⟨vs, h1.l, h2.len⟩, fin⟩
    | ref k =>
      obtain ⟨a, rfl, ea⟩ := q
      simp only [lenD] at e1
      split at e1
      · rename_i l el
        cases e1
        obtain ⟨vs, k1, k2⟩ := R.lst el ea
        exact call_len pins s σ H _ us Q I r ⟨_, _, rfl, .inl ⟨vs, SqL.of k1, k2.len⟩, fin⟩
      · rename_i l el
        cases e1
        obtain ⟨ws, k1, k2, k3⟩ := R.dic el ea
        have el2 : ws.length = l.length := by simpa using congrArg List.length k2
        exact call_lenD pins s σ H _ us Q I r ⟨a, ws, rfl, k1, by rw [el2]; exact fin⟩
      · cases e1
    | _ => cases e1
theorem bi_int : CallR X (.type "int") (rC X.K ecl (evBi .int)) := by
  intro pins s σ H xs us Q I r hr
  obtain ⟨m, hd, ds, E, R, hx, p⟩ := hr
  unfold evBi at p
  split at p <;> first | (exact p.elim) | skip
  all_goals first | (rename_i hb; cases hb; done) | (rename_i _ hb; cases hb; done) | (rename_i _ _ hb; cases hb; done) | skip
  · obtain ⟨v, rfl, q⟩ := one_den hx
    cases (show v = _ from q)
    exact call_int1 pins s σ H _ us Q I r (.inl ⟨_, rfl, post_int R p⟩)
  · obtain ⟨v, rfl, q⟩ := one_den hx
    cases (show v = _ from q)
    exact call_int1 pins s σ H _ us Q I r (.inr ⟨_, rfl, post_int R p⟩)
  · obtain ⟨v, rfl, q⟩ := one_den hx
    cases (show v = _ from q)
    split at p
    · rename_i n e
      split at p
      · rename_i hc
        exact call_int_str pins s σ H _ us Q I r ⟨_, n, rfl, e, hc, post_int R p⟩
      · exact p.elim
    · exact p.elim
theorem bi_abs : CallR X (.builtin "abs") (rC X.K ecl (evBi .abs)) := by
  intro pins s σ H xs us Q I r hr
  obtain ⟨m, hd, ds, E, R, hx, p⟩ := hr
  unfold evBi at p
  split at p <;> first | (exact p.elim) | skip
  all_goals first | (rename_i hb; cases hb; done) | (rename_i _ hb; cases hb; done) | (rename_i _ _ hb; cases hb; done) | skip
  obtain ⟨v, rfl, q⟩ := one_den hx
  cases (show v = _ from q)
  exact call_abs pins s σ H _ us Q I r ⟨_, rfl, post_int R p⟩
theorem bi_str : CallR X (.type "str") (rC X.K ecl (evBi .str)) := by
  intro pins s σ H xs us Q I r hr
  obtain ⟨m, hd, ds, E, R, hx, p⟩ := hr
  unfold evBi at p
  split at p <;> first | (exact p.elim) | skip
  all_goals first | (rename_i hb; cases hb; done) | (rename_i _ hb; cases hb; done) | (rename_i _ _ hb; cases hb; done) | skip
  · obtain ⟨v, rfl, q⟩ := one_den hx
    cases (show v = _ from q)
    split at p
    · rename_i hc
      exact call_str_int pins s σ H _ us Q I r ⟨_, rfl, hc, post_str R p⟩
    · exact p.elim
  · obtain ⟨v, rfl, q⟩ := one_den hx
    cases (show v = _ from q)
    exact SkE.call_str_str pins s σ H _ us Q I r ⟨_, rfl, post_str R p⟩
theorem bi_min (hc : X.calm = true) : CallR X (.builtin "min") (rC X.K ecl (evBi .min)) := by
  intro pins s σ H xs us Q I r hr
  obtain ⟨m, hd, ds, E, R, hx, p⟩ := hr
  unfold evBi at p
  split at p <;> first | (exact p.elim) | skip
  all_goals first | (rename_i hb; cases hb; done) | (rename_i _ hb; cases hb; done) | (rename_i _ _ hb; cases hb; done) | skip
  obtain ⟨v, w, rfl, q, q2⟩ := two_den hx
  cases (show v = _ from q); cases (show w = _ from q2)
  exact call_min2 hc pins s σ H _ us Q I r ⟨_, _, rfl, post_int R p⟩
theorem bi_max (hc : X.calm = true) : CallR X (.builtin "max") (rC X.K ecl (evBi .max)) := by
  intro pins s σ H xs us Q I r hr
  obtain ⟨m, hd, ds, E, R, hx, p⟩ := hr
  unfold evBi at p
  split at p <;> first | (exact p.elim) | skip
  all_goals first | (rename_i hb; cases hb; done) | (rename_i _ hb; cases hb; done) | (rename_i _ _ hb; cases hb; done) | skip
  obtain ⟨v, w, rfl, q, q2⟩ := two_den hx
  cases (show v = _ from q); cases (show w = _ from q2)
  exact call_max2 hc pins s σ H _ us Q I r ⟨_, _, rfl, post_int R p⟩
theorem bi_sum (hc : X.calm = true) : CallR X (.builtin "sum") (rC X.K ecl (evBi .sum)) := by
  intro pins s σ H xs us Q I r hr
  obtain ⟨m, hd, ds, E, R, hx, p⟩ := hr
  unfold evBi at p
  split at p <;> first | (exact p.elim) | skip
  all_goals first | (rename_i hb; cases hb; done) | (rename_i _ hb; cases hb; done) | (rename_i _ _ hb; cases hb; done) | skip
  rename_i x _
  obtain ⟨v, rfl, q⟩ := one_den hx
  obtain ⟨d, e, p⟩ := post_okd p
  cases e1 : listOf hd x with
  | none => rw [e1] at e; cases e
  | some l =>
    rw [e1] at e
    cases e2 : intsOf l with
    | none => simp only [Option.bind_some, e2] at e; cases e
    | some ns =>
      simp only [Option.bind_some, e2] at e
      cases e
      obtain ⟨a, vs, rfl, h1, h2⟩ := den_list R q e1
      rw [den_ints h2 e2] at h1
      exact cr_sum hc pins s σ H _ us Q I r ⟨a, ns, rfl, h1, post_int R p⟩
theorem bi_all (hc : X.calm = true) : CallR X (.builtin "all") (rC X.K ecl (evBi .all)) := by
  intro pins s σ H xs us Q I r hr
  obtain ⟨m, hd, ds, E, R, hx, p⟩ := hr
  unfold evBi at p
  split at p <;> first | (exact p.elim) | skip
  all_goals first | (rename_i hb; cases hb; done) | (rename_i _ hb; cases hb; done) | (rename_i _ _ hb; cases hb; done) | skip
  rename_i x _
  obtain ⟨v, rfl, q⟩ := one_den hx
  obtain ⟨d, e, p⟩ := post_okd p
  cases e1 : listOf hd x with
  | none => rw [e1] at e; cases e
  | some l =>
    rw [e1] at e
    cases e2 : blsOf l with
    | none => simp only [Option.bind_some, e2] at e; cases e
    | some ns =>
      simp only [Option.bind_some, e2] at e
      cases e
      obtain ⟨a, vs, rfl, h1, h2⟩ := den_list R q e1
      rw [den_bls h2 e2] at h1
      exact cr_all hc pins s σ H _ us Q I r ⟨a, ns, rfl, h1, post_bl R p⟩
theorem bi_any (hc : X.calm = true) : CallR X (.builtin "any") (rC X.K ecl (evBi .any)) := by
  intro pins s σ H xs us Q I r hr
  obtain ⟨m, hd, ds, E, R, hx, p⟩ := hr
  unfold evBi at p
  split at p <;> first | (exact p.elim) | skip
  all_goals first | (rename_i hb; cases hb; done) | (rename_i _ hb; cases hb; done) | (rename_i _ _ hb; cases hb; done) | skip
  rename_i x _
  obtain ⟨v, rfl, q⟩ := one_den hx
  obtain ⟨d, e, p⟩ := post_okd p
  cases e1 : listOf hd x with
  | none => rw [e1] at e; cases e
  | some l =>
    rw [e1] at e
    cases e2 : blsOf l with
    | none => simp only [Option.bind_some, e2] at e; cases e
    | some ns =>
      simp only [Option.bind_some, e2] at e
      cases e
      obtain ⟨a, vs, rfl, h1, h2⟩ := den_list R q e1
      rw [den_bls h2 e2] at h1
      exact cr_any hc pins s σ H _ us Q I r ⟨a, ns, rfl, h1, post_bl R p⟩
theorem bi_list : CallR X (.type "list") (rC X.K ecl (evBi .list)) := by
  intro pins s σ H xs us Q I r hr
  obtain ⟨m, hd, ds, E, R, hx, p⟩ := hr
  unfold evBi at p
  split at p <;> first | (exact p.elim) | skip
  all_goals first | (rename_i hb; cases hb; done) | (rename_i _ hb; cases hb; done) | (rename_i _ _ hb; cases hb; done) | skip
  obtain ⟨v, rfl, q⟩ := one_den hx
  split at p
  · rename_i l e1
    obtain ⟨a, vs, rfl, h1, h2⟩ := den_seq R q e1
    exact call_list_of pins s σ H _ us Q I r ⟨a, vs, rfl, h1, fun b nb => post_lst R h2 p b nb⟩
  · exact p.elim
theorem bi_tuple : CallR X (.type "tuple") (rC X.K ecl (evBi .tuple)) := by
  intro pins s σ H xs us Q I r hr
  obtain ⟨m, hd, ds, E, R, hx, p⟩ := hr
  unfold evBi at p
  split at p <;> first | (exact p.elim) | skip
  all_goals first | (rename_i hb; cases hb; done) | (rename_i _ hb; cases hb; done) | (rename_i _ _ hb; cases hb; done) | skip
  obtain ⟨v, rfl, q⟩ := one_den hx
  split at p
  · rename_i l e1
    obtain ⟨a, vs, rfl, h1, h2⟩ := den_seqE R q e1
    refine tupleE pins s σ H _ us Q I r ⟨a, vs, rfl, ?_⟩
    rcases h1 with h1 | h1
    · exact .inl ⟨h1, fun b o nb no => post_tup R h2 p b o nb no⟩
    · exact .inr ⟨h1.t, post_same R (show Den X.K m H (.tup l) (.ref a) from ⟨a, vs, rfl, h1, h2⟩) p⟩
  · exact p.elim

/-! ### methods -/
theorem me_append : MtR X "list.append" (rM X.K ecl (evMe .append)) := by
  intro pins s σ H x xs v us Q I rx rs hr
  obtain ⟨m, hd, d, ds, E, R, hx, hxs, p⟩ := hr
  unfold evMe at p
  split at p <;> first | (exact p.elim) | skip
  all_goals first | (rename_i hb; cases hb; done) | (rename_i _ hb; cases hb; done) | (rename_i _ _ hb; cases hb; done) | skip
  obtain ⟨w, rfl, q⟩ := one_den hxs
  obtain ⟨a, rfl, ea⟩ := hx
  split at p
  · rename_i l el
    split at p
    · rename_i hc
      obtain ⟨vs, k1, k2⟩ := R.lst el ea
      exact mt_append pins s σ H _ _ v us Q I rx rs ⟨a, vs, w, rfl, rfl, k1, by rw [← k2.len]; exact lim_lt hc, post_put R ea (show Den X.K m H .non .non from rfl) (k2.app (DenL.cons q DenL.nil)) p⟩
    · exact p.elim
  · exact p.elim
theorem me_extend : MtR X "list.extend" (rM X.K ecl (evMe .extend)) := by
  intro pins s σ H x xs v us Q I rx rs hr
  obtain ⟨m, hd, d, ds, E, R, hx, hxs, p⟩ := hr
  unfold evMe at p
  split at p <;> first | (exact p.elim) | skip
  all_goals first | (rename_i hb; cases hb; done) | (rename_i _ hb; cases hb; done) | (rename_i _ _ hb; cases hb; done) | skip
  obtain ⟨w, rfl, q⟩ := one_den hxs
  obtain ⟨a, rfl, ea⟩ := hx
  obtain ⟨b, rfl, eb⟩ := q
  split at p
  · rename_i l1 l2 e1 e2
    split at p
    · rename_i hc
      obtain ⟨vs, k1, k2⟩ := R.lst e1 ea
      obtain ⟨ws, j1, j2⟩ := R.lst e2 eb
      exact mt_extend pins s σ H _ _ v us Q I rx rs ⟨a, b, vs, ws, rfl, rfl, k1, j1, by rw [← k2.len, ← j2.len]; exact lim_le hc, post_put R ea (show Den X.K m H .non .non from rfl) (k2.app j2) p⟩
    · exact p.elim
  · exact p.elim
theorem me_pop : MtR X "list.pop" (rM X.K ecl (evMe .pop)) := by
  intro pins s σ H x xs v us Q I rx rs hr
  obtain ⟨m, hd, d, ds, E, R, hx, hxs, p⟩ := hr
  unfold evMe at p
  split at p <;> first | (exact p.elim) | skip
  all_goals first | (rename_i hb; cases hb; done) | (rename_i _ hb; cases hb; done) | (rename_i _ _ hb; cases hb; done) | skip
  cases zero_den hxs
  obtain ⟨a, rfl, ea⟩ := hx
  split at p
  · rename_i l el
    split at p
    · rename_i y ey
      obtain ⟨vs, k1, k2⟩ := R.lst el ea
      obtain ⟨w, e1, q⟩ := k2.get ey
      exact mt_pop pins s σ H _ _ v us Q I rx rs ⟨a, vs, w, rfl, rfl, k1, by rw [← k2.len]; exact e1, post_put R ea q k2.dropLast p⟩
    · exact p.elim
  · exact p.elim
theorem me_split : MtR X "str.split" (rM X.K ecl (evMe .split)) := by
  intro pins s σ H x xs v us Q I rx rs hr
  obtain ⟨m, hd, d, ds, E, R, hx, hxs, p⟩ := hr
  unfold evMe at p
  split at p <;> first | (exact p.elim) | skip
  all_goals first | (rename_i hb; cases hb; done) | (rename_i _ hb; cases hb; done) | (rename_i _ _ hb; cases hb; done) | skip
  obtain ⟨w, rfl, q⟩ := one_den hxs
  cases (show x = _ from hx); cases (show w = _ from q)
  split at p
  · rename_i hc
    exact mt_split pins s σ H _ _ v us Q I rx rs ⟨_, _, rfl, rfl, hc.1, lim_le hc.2, fun b nb => post_lst R (denL_strs m H _) p b nb⟩
  · exact p.elim
theorem me_partition : MtR X "str.partition" (rM X.K ecl (evMe .partition)) := by
  intro pins s σ H x xs v us Q I rx rs hr
  obtain ⟨m, hd, d, ds, E, R, hx, hxs, p⟩ := hr
  unfold evMe at p
  split at p <;> first | (exact p.elim) | skip
  all_goals first | (rename_i hb; cases hb; done) | (rename_i _ hb; cases hb; done) | (rename_i _ _ hb; cases hb; done) | skip
  obtain ⟨w, rfl, q⟩ := one_den hxs
  cases (show x = _ from hx); cases (show w = _ from q)
  split at p
  · rename_i hc
    exact partE pins s σ H _ _ v us Q I rx rs ⟨_, _, rfl, rfl, hc.1, lim_le hc.2, fun b o nb no => post_tup R (ds := [.str _, .str _, .str _]) (vs := [.str _, .str _, .str _]) ⟨_, _, rfl, rfl, _, _, rfl, rfl, _, _, rfl, rfl, rfl⟩ p b o nb no⟩
  · exact p.elim
/-- flat data as the library's -/
def flatP : D → PyData
  | .bl b => .bool b
  | .int i => .int i
  | .str s => .str s
  | _ => .none
theorem toP_flat {n : Nat} {d : D} (f : flatD d = true) : toP h (n + 1) d = some (flatP d) := by
  cases d <;> first | rfl | (cases f; done)
theorem toP_flats {n : Nat} : ∀ {l : List D}, l.all flatD = true → l.mapM (toP h (n + 1)) = some (l.map flatP)
  | [], _ => rfl
  | d :: r, f => by
    rw [List.all_cons, Bool.and_eq_true] at f
    simp [List.mapM_cons, toP_flat f.1, toP_flats f.2]
theorem eqv_flat {z x : D} (fz : flatD z = true) (fx : flatD x = true) : PyData.eqv (flatP z) (flatP x) = eqF z x := by
  cases z <;> cases x <;> first | (cases fz; done) | (cases fx; done) | simp [flatP, PyData.eqv, eqF]
theorem count_flat {x : D} (fx : flatD x = true) : ∀ {l : List D}, l.all flatD = true → (l.map flatP).countP (fun y => PyData.eqv y (flatP x)) = l.countP fun z => eqF z x
  | [], _ => rfl
  | d :: r, f => by
    rw [List.all_cons, Bool.and_eq_true] at f
    rw [List.map_cons, List.countP_cons, List.countP_cons, count_flat fx f.2, eqv_flat f.1 fx]
/-- as rM, of one type -/
def rMT (K : PySem.W.Frag) (ecl : Nat → Value) (ok : D → Bool) (f : D → List D → Hd → Res D) : V → List V → Hp → VK → Prop := fun x xs H Q => ∃ m hd d ds E, Rel K m hd H ∧ Den K m H d x ∧ DenL K m H ds xs ∧ ok d = true ∧ Post K ecl m H (f d ds hd) Q E
def isTupD : D → Bool | .tup _ => true | _ => false
def isStrD : D → Bool | .str _ => true | _ => false
theorem me_countT (hu : X.A.units + 64 < cLine) : MtR X "tuple.count" (rMT X.K ecl isTupD (evMe .count)) := by
  intro pins s σ H x xs v us Q I rx rs hr
  obtain ⟨m, hd, d, ds, E, R, hx, hxs, hok, p⟩ := hr
  unfold evMe at p
  split at p <;> first | (exact p.elim) | skip
  all_goals first | (rename_i hb; cases hb; done) | (rename_i _ hb; cases hb; done) | (rename_i _ _ hb; cases hb; done) | (cases hok; done) | skip
  obtain ⟨w, rfl, q⟩ := one_den hxs
  obtain ⟨a, vs, rfl, h1, h2⟩ := hx
  rename_i l z _
  split at p
  · rename_i n ec
    unfold cntD at ec
    split at ec
    · rename_i hf
      cases ec
      obtain ⟨u, rfl, ru⟩ := vals1 rs
      cases rx
      obtain ⟨its, r, tt, _⟩ := I.tuple h1.t
      have d1 : Dp X.K H w (flatP z) := den_dp R 1 _ _ _ q (toP_flat hf.1)
      have d2 : DpAll X.K H vs (l.map flatP) := den_dpAll (den_dp R 1) h2 (toP_flats hf.2)
      obtain ⟨as, r1⟩ := Dp.reads I _ _ _ d1 ru
      obtain ⟨bs, r2⟩ := Dp.readsAll I _ _ _ d2 r
      obtain ⟨p1, p2⟩ := toP_plain hd 1 _ _ (toP_flat hf.1)
      obtain ⟨p3, p4⟩ := plain_all (toP_plain hd 1) (toP_flats (h := hd) (n := 0) hf.2)
      refine SeqAt.count_tuple_data tt (by simpa using r2) r1 p3 p1 (by omega) ?_
      rw [count_flat hf.1 hf.2]
      exact ⟨.int _, H, I.tok _, ⟨_, rfl⟩, post_int R p⟩
    · cases ec
  · exact p.elim
theorem me_countS : MtR X "str.count" (rMT X.K ecl isStrD (evMe .count)) := by
  intro pins s σ H x xs v us Q I rx rs hr
  obtain ⟨m, hd, d, ds, E, R, hx, hxs, hok, p⟩ := hr
  unfold evMe at p
  split at p <;> first | (exact p.elim) | skip
  all_goals first | (rename_i hb; cases hb; done) | (rename_i _ hb; cases hb; done) | (rename_i _ _ hb; cases hb; done) | (cases hok; done) | skip
  obtain ⟨w, rfl, q⟩ := one_den hxs
  cases (show x = _ from hx); cases (show w = _ from q)
  exact mt_count pins s σ H _ _ v us Q I rx rs ⟨_, _, rfl, rfl, post_int R p⟩
theorem me_startswith : MtR X "str.startswith" (rM X.K ecl (evMe .startswith)) := by
  intro pins s σ H x xs v us Q I rx rs hr
  obtain ⟨m, hd, d, ds, E, R, hx, hxs, p⟩ := hr
  unfold evMe at p
  split at p <;> first | (exact p.elim) | skip
  all_goals first | (rename_i hb; cases hb; done) | (rename_i _ hb; cases hb; done) | (rename_i _ _ hb; cases hb; done) | skip
  obtain ⟨w, rfl, q⟩ := one_den hxs
  cases (show x = _ from hx); cases (show w = _ from q)
  exact mt_startswith pins s σ H _ _ v us Q I rx rs ⟨_, _, rfl, rfl, post_bl R p⟩
theorem me_upper : MtR X "str.upper" (rM X.K ecl (evMe .upper)) := by
  intro pins s σ H x xs v us Q I rx rs hr
  obtain ⟨m, hd, d, ds, E, R, hx, hxs, p⟩ := hr
  unfold evMe at p
  split at p <;> first | (exact p.elim) | skip
  all_goals first | (rename_i hb; cases hb; done) | (rename_i _ hb; cases hb; done) | (rename_i _ _ hb; cases hb; done) | skip
  cases zero_den hxs
  cases (show x = _ from hx)
  split at p
  · rename_i hc
    exact mt_upper pins s σ H _ _ v us Q I rx rs ⟨_, rfl, rfl, Nat.le_trans hc (by decide), post_str R p⟩
  · exact p.elim
theorem me_join : MtR X "str.join" (rM X.K ecl (evMe .join)) := by
  intro pins s σ H x xs v us Q I rx rs hr
  obtain ⟨m, hd, d, ds, E, R, hx, hxs, p⟩ := hr
  unfold evMe at p
  split at p <;> first | (exact p.elim) | skip
  all_goals first | (rename_i hb; cases hb; done) | (rename_i _ hb; cases hb; done) | (rename_i _ _ hb; cases hb; done) | skip
  obtain ⟨w, rfl, q⟩ := one_den hxs
  cases (show x = _ from hx)
  split at p
  · rename_i ys ey
    split at p
    · rename_i hc
      cases e1 : seqOf hd _ with
      | none => rw [e1] at ey; cases ey
      | some l =>
        rw [e1] at ey
        obtain ⟨a, vs, rfl, h1, h2⟩ := den_seq R q e1
        rw [den_strs h2 ey] at h1
        exact mt_join pins s σ H _ _ v us Q I rx rs ⟨_, a, ys, rfl, rfl, h1, lim_16 hc, post_str R p⟩
    · exact p.elim
  · exact p.elim
end
end Eg
set_option maxHeartbeats 4000000
/-! Part 5: expressions. -/
namespace Eg
open PySem PySem.Spec PyProof.Rows L2

section
variable (K : PySem.W.Frag) (ecl : Nat → Value) (W : WX)
def tD (c : Sg → Hd → Res D) : TE := fun σ H Q => ∃ m σd hd, Rel K m hd H ∧ DenS K m H σd σ ∧ Post K ecl m H (c σd hd) Q (WE W σ)
def tDA (c : Sg → Hd → Res (List D)) : TA := fun σ H Q => ∃ m σd hd, Rel K m hd H ∧ DenS K m H σd σ ∧ PostA K ecl m H (c σd hd) Q (WE W σ)
def tDT (c : Sg → Hd → Res Bool) : TT := fun σ H Q => ∃ m σd hd, Rel K m hd H ∧ DenS K m H σd σ ∧ PostB K ecl m H (c σd hd) Q (WE W σ)
def tDO (c : Sg → Hd → Res (Option Int)) : L2.TO := fun σ H Q => ∃ m σd hd, Rel K m hd H ∧ DenS K m H σd σ ∧ PostG K ecl (fun _ _ (b c : Option Int) => b = c) m H (c σd hd) Q (WE W σ)
end

theorem PE.weak {X : Cx} {e : Expr} {t t' : TE} (h : PE X e t) (f : ∀ σ H Q, t' σ H Q → t σ H Q) : PE X e t' := ⟨fun pins s σ H Q I q => h.run pins s σ H Q I (f σ H Q q)⟩
theorem PT.weak {X : Cx} {e : Expr} {t t' : TT} (h : PT X e t) (f : ∀ σ H Q, t' σ H Q → t σ H Q) : PT X e t' := ⟨fun pins s σ H Q I q => h.run pins s σ H Q I (f σ H Q q)⟩
theorem PW.weak {X : Cx} {e : Expr} {t t' : TT} (h : PW X e t) (f : ∀ σ H Q, t' σ H Q → t σ H Q) : PW X e t' := ⟨fun wh pins s σ H Q I q => h.run wh pins s σ H Q I (f σ H Q q)⟩
theorem PA.weak {X : Cx} {es : List Expr} {t t' : TA} (h : PA X es t) (f : ∀ σ H Q, t' σ H Q → t σ H Q) : PA X es t' := ⟨fun pos pins s σ H Q I q => h.run pos pins s σ H Q I (f σ H Q q)⟩
theorem PO.weak {X : Cx} {e : Option Expr} {t t' : L2.TO} (h : PO X e t) (f : ∀ σ H Q, t' σ H Q → t σ H Q) : PO X e t' := ⟨fun pins s σ H Q I q => h.run pins s σ H Q I (f σ H Q q)⟩
theorem PI.weak {X : Cx} {tg e : Expr} {t t' : TI} (h : PI X tg e t) (f : ∀ σ H Q, t' σ H Q → t σ H Q) : PI X tg e t' := ⟨fun pins s σ H Q I q => h.run pins s σ H Q I (f σ H Q q)⟩
theorem PI.or {X : Cx} {tg e : Expr} {t t' : TI} (h : PI X tg e t) (h' : PI X tg e t') : PI X tg e (fun σ H R => t σ H R ∨ t' σ H R) :=
  ⟨fun pins s σ H Q I q => q.elim (h.run pins s σ H Q I) (h'.run pins s σ H Q I)⟩
theorem PE.or {X : Cx} {e : Expr} {t t' : TE} (h : PE X e t) (h' : PE X e t') : PE X e (fun σ H R => t σ H R ∨ t' σ H R) :=
  ⟨fun pins s σ H Q I q => q.elim (h.run pins s σ H Q I) (h'.run pins s σ H Q I)⟩

section
variable {K : PySem.W.Frag} {ecl : Nat → Value} {W : WX} {γ δ : Type} {R2 : List Addr → Hp → γ → δ → Prop} {m : List Addr} {hd : Hd} {H : Hp} {σd : Sg} {σ : St} {E : XK}
/-- evaluate, then go on -/
theorem bindE {c : Sg → Hd → Res D} {f : D → Hd → Res γ} {Q : δ → Hp → Prop} (R : Rel K m hd H) (S : DenS K m H σd σ) (p : PostG K ecl R2 m H ((c σd hd).bind f) Q (WE W σ)) :
    tD K ecl W c σ H (fun v H1 => ∃ d h1 m1, Step m H m1 H1 ∧ Rel K m1 h1 H1 ∧ DenS K m1 H1 σd σ ∧ Den K m1 H1 d v ∧ c σd hd = .ok d h1 ∧ PostG K ecl R2 m1 H1 (f d h1) Q (WE W σ)) :=
  ⟨m, σd, hd, R, S, (PostG.bind p).imp fun v H1 ⟨d, h1, m1, s, R1, q, e, p1⟩ => ⟨d, h1, m1, s, R1, S.mono (Step.ext R s), q, e, p1⟩⟩
theorem bindA {c : Sg → Hd → Res (List D)} {f : List D → Hd → Res γ} {Q : δ → Hp → Prop} (R : Rel K m hd H) (S : DenS K m H σd σ) (p : PostG K ecl R2 m H ((c σd hd).bind f) Q (WE W σ)) :
    tDA K ecl W c σ H (fun v H1 => ∃ d h1 m1, Step m H m1 H1 ∧ Rel K m1 h1 H1 ∧ DenS K m1 H1 σd σ ∧ DenL K m1 H1 d v ∧ c σd hd = .ok d h1 ∧ PostG K ecl R2 m1 H1 (f d h1) Q (WE W σ)) :=
  ⟨m, σd, hd, R, S, (PostG.bind p).imp fun v H1 ⟨d, h1, m1, s, R1, q, e, p1⟩ => ⟨d, h1, m1, s, R1, S.mono (Step.ext R s), q, e, p1⟩⟩
theorem bindT {c : Sg → Hd → Res Bool} {f : Bool → Hd → Res γ} {Q : δ → Hp → Prop} (R : Rel K m hd H) (S : DenS K m H σd σ) (p : PostG K ecl R2 m H ((c σd hd).bind f) Q (WE W σ)) :
    tDT K ecl W c σ H (fun v H1 => ∃ h1 m1, Step m H m1 H1 ∧ Rel K m1 h1 H1 ∧ DenS K m1 H1 σd σ ∧ c σd hd = .ok v h1 ∧ PostG K ecl R2 m1 H1 (f v h1) Q (WE W σ)) :=
  ⟨m, σd, hd, R, S, (PostG.bind p).imp fun v H1 ⟨d, h1, m1, s, R1, q, e, p1⟩ => by
    subst q
    exact ⟨h1, m1, s, R1, S.mono (Step.ext R s), e, p1⟩⟩
theorem bindO {c : Sg → Hd → Res (Option Int)} {f : Option Int → Hd → Res γ} {Q : δ → Hp → Prop} (R : Rel K m hd H) (S : DenS K m H σd σ) (p : PostG K ecl R2 m H ((c σd hd).bind f) Q (WE W σ)) :
    tDO K ecl W c σ H (fun v H1 => ∃ h1 m1, Step m H m1 H1 ∧ Rel K m1 h1 H1 ∧ DenS K m1 H1 σd σ ∧ c σd hd = .ok v h1 ∧ PostG K ecl R2 m1 H1 (f v h1) Q (WE W σ)) :=
  ⟨m, σd, hd, R, S, (PostG.bind p).imp fun v H1 ⟨d, h1, m1, s, R1, q, e, p1⟩ => by
    subst q
    exact ⟨h1, m1, s, R1, S.mono (Step.ext R s), e, p1⟩⟩
end

section
variable {X : Cx} {ecl : Nat → Value} {W : WX} {a b c e : Expr} {ca cb cc : Sg → Hd → Res D} {ta tb : Sg → Hd → Res Bool} {pos : Pos}

abbrev SE (X : Cx) (ecl : Nat → Value) (W : WX) (e : Expr) (c : Sg → Hd → Res D) : Prop := PE X e (tD X.K ecl W c)
abbrev ST (X : Cx) (ecl : Nat → Value) (W : WX) (e : Expr) (c : Sg → Hd → Res Bool) : Prop := PT X e (tDT X.K ecl W c)
abbrev SA (X : Cx) (ecl : Nat → Value) (W : WX) (es : List Expr) (c : Sg → Hd → Res (List D)) : Prop := PA X es (tDA X.K ecl W c)

theorem se_cst {d : D} {v : V} (h : PE X e (tC v)) (q : ∀ m H, Den X.K m H d v) : SE X ecl W e (fun _ h => .ok d h) :=
  PE.weak h fun σ H Q ⟨m, σd, hd, R, S, p⟩ => post_same R (q m H) p
theorem se_var {i : Nat} (h : PE X e (tVar i)) : SE X ecl W e (fun σ h => match σ[i]? with | some (some d) => .ok d h | _ => .bad) :=
  PE.weak h fun σ H Q ⟨m, σd, hd, R, S, p⟩ => by
    dsimp only at p
    split at p
    · rename_i d ed
      obtain ⟨v, e1, q⟩ := S.at_ i d ed
      exact ⟨v, e1, post_same R q p⟩
    · exact p.elim
theorem se_bin {op : Operator} (ha : SE X ecl W a ca) (hb : SE X ecl W b cb) : SE X ecl W (.BinOp a op b pos) (fun σ h => (ca σ h).bind fun x h1 => (cb σ h1).bind fun y h2 => evBin op x y h2) :=
  PE.weak (pe_op (op_binD (ecl := ecl) op) ha hb) fun σ H Q ⟨m, σd, hd, R, S, p⟩ => by
    obtain ⟨m0, s0, h0, r0, S0, p0⟩ := bindE R S p
    refine ⟨m0, s0, h0, r0, S0, p0.imp fun x H1 ⟨d, h1, m1, s1, R1, S1, q, _, p1⟩ => ?_⟩
    obtain ⟨m0, s0, h0, r0, S0, p0⟩ := bindE R1 S1 p1
    exact ⟨m0, s0, h0, r0, S0, p0.imp fun y H2 ⟨d2, h2, m2, s2, R2, S2, q2, _, p2⟩ => ⟨m2, h2, d, d2, _, R2, q.mono (Step.ext R1 s2), q2, p2⟩⟩
theorem se_neg (ha : SE X ecl W a ca) : SE X ecl W (.UnaryOp .USub a pos) (fun σ h => (ca σ h).bind fun x h1 => match x with | .int i => .ok (.int (-i)) h1 | _ => .bad) :=
  PE.weak (pe_un un_neg ha) fun σ H Q ⟨m, σd, hd, R, S, p⟩ => by
    obtain ⟨m0, s0, h0, r0, S0, p0⟩ := bindE R S p
    refine ⟨m0, s0, h0, r0, S0, p0.imp fun x H1 ⟨d, h1, m1, s1, R1, S1, q, _, p1⟩ => ?_⟩
    split at p1
    · cases (show x = _ from q)
      exact ⟨_, rfl, post_int R1 p1⟩
    · exact p1.elim
theorem se_cmp {op : CmpOp} (hu : X.A.units + 64 < cLine) (hm : behindInMarks op b = false) (ha : SE X ecl W a ca) (hb : SE X ecl W b cb) :
    SE X ecl W (.Compare a [op] [b] pos) (fun σ h => (ca σ h).bind fun x h1 => (cb σ h1).bind fun y h2 => evCmp op x y h2) :=
  PE.weak (pe_cmpR (op_cmpD (ecl := ecl) hu op) ha hb hm) fun σ H Q ⟨m, σd, hd, R, S, p⟩ => by
    obtain ⟨m0, s0, h0, r0, S0, p0⟩ := bindE R S p
    refine ⟨m0, s0, h0, r0, S0, p0.imp fun x H1 ⟨d, h1, m1, s1, R1, S1, q, _, p1⟩ => ?_⟩
    obtain ⟨m0, s0, h0, r0, S0, p0⟩ := bindE R1 S1 p1
    exact ⟨m0, s0, h0, r0, S0, p0.imp fun y H2 ⟨d2, h2, m2, s2, R2, S2, q2, _, p2⟩ => ⟨m2, h2, d, d2, _, R2, q.mono (Step.ext R1 s2), q2, p2⟩⟩
theorem postG_bl {m : List Addr} {H : Hp} {r : Res D} {Q : Bool → Hp → Prop} {E : XK} (p : PostB X.K ecl m H (blR r) Q E) : Post X.K ecl m H r (fun x H' => ∃ k, x = .bl k ∧ Q k H') E := by
  cases r with
  | ok d h =>
    intro m' H' v s R q
    cases d with
    | bl b => cases (show v = _ from q); exact ⟨b, rfl, p m' H' b s R rfl⟩
    | _ => exact (show False from p).elim
  | exc e h => exact p
  | bad => exact p
theorem st_cmp {op : CmpOp} (hu : X.A.units + 64 < cLine) (hm : behindInMarks op b = false) (ha : SE X ecl W a ca) (hb : SE X ecl W b cb) :
    ST X ecl W (.Compare a [op] [b] pos) (fun σ h => blR ((ca σ h).bind fun x h1 => (cb σ h1).bind fun y h2 => evCmp op x y h2)) :=
  PT.weak (pt_cmpR (op_cmpD (ecl := ecl) hu op) ha hb hm) fun σ H Q ⟨m, σd, hd, R, S, p⟩ => by
    have p := postG_bl p
    obtain ⟨m0, s0, h0, r0, S0, p0⟩ := bindE R S p
    refine ⟨m0, s0, h0, r0, S0, p0.imp fun x H1 ⟨d, h1, m1, s1, R1, S1, q, _, p1⟩ => ?_⟩
    obtain ⟨m0, s0, h0, r0, S0, p0⟩ := bindE R1 S1 p1
    exact ⟨m0, s0, h0, r0, S0, p0.imp fun y H2 ⟨d2, h2, m2, s2, R2, S2, q2, _, p2⟩ => ⟨m2, h2, d, d2, _, R2, q.mono (Step.ext R1 s2), q2, p2⟩⟩
theorem chn_read {o1 o2 : CmpOp} {σ : St} {H : Hp} {Q : VK} {m : List Addr} {σd : Sg} {hd : Hd} (R : Rel X.K m hd H) (S : DenS X.K m H σd σ)
    (p : Post X.K ecl m H ((ca σd hd).bind fun x h1 => (cb σd h1).bind fun y h2 => (evCmp o1 x y h2).bind fun k h3 => match k with
      | .bl true => (cc σd h3).bind fun z h4 => evCmp o2 y z h4
      | .bl false => .ok (.bl false) h3
      | _ => .bad) Q (WE W σ)) :
    tChain (rD X.K ecl (evCmp o1)) (rD X.K ecl (evCmp o2)) (tD X.K ecl W ca) (tD X.K ecl W cb) (tD X.K ecl W cc) σ H Q := by
  obtain ⟨m0, s0, h0, r0, S0, p0⟩ := bindE R S p
  refine ⟨m0, s0, h0, r0, S0, p0.imp fun x H1 ⟨d, h1, m1, s1, R1, S1, q, _, p1⟩ => ?_⟩
  obtain ⟨m0, s0, h0, r0, S0, p0⟩ := bindE R1 S1 p1
  refine ⟨m0, s0, h0, r0, S0, p0.imp fun y H2 ⟨d2, h2, m2, s2, R2, S2, q2, _, p2⟩ => ⟨m2, h2, d, d2, _, R2, q.mono (Step.ext R1 s2), q2, (PostG.bind p2).imp fun z H3 ⟨k, h3, m3, s3, R3, q3, e3, p3⟩ => ?_⟩⟩
  have x3 := Step.ext R2 s3
  split at p3
  · cases (show z = _ from q3)
    refine ⟨true, rfl, ?_⟩
    rw [if_pos rfl]
    obtain ⟨m0, s0, h0, r0, S0, p0⟩ := bindE R3 (S2.mono x3) p3
    exact ⟨m0, s0, h0, r0, S0, p0.imp fun w H4 ⟨d4, h4, m4, s4, R4, S4, q4, _, p4⟩ => ⟨m4, h4, d2, d4, _, R4, (q2.mono x3).mono (Step.ext R3 s4), q4, p4⟩⟩
  · cases (show z = _ from q3)
    refine ⟨false, rfl, ?_⟩
    rw [if_neg Bool.false_ne_true]
    exact post_bl R3 p3
  · exact p3.elim
theorem se_chn {o1 o2 : CmpOp} (hu : X.A.units + 64 < cLine) (hm : lastMarks [o1, o2] [b, c] = false) (ha : SE X ecl W a ca) (hb : SE X ecl W b cb) (hc : SE X ecl W c cc) :
    SE X ecl W (.Compare a [o1, o2] [b, c] pos) (fun σ h => (ca σ h).bind fun x h1 => (cb σ h1).bind fun y h2 => (evCmp o1 x y h2).bind fun k h3 => match k with
      | .bl true => (cc σ h3).bind fun z h4 => evCmp o2 y z h4
      | .bl false => .ok (.bl false) h3
      | _ => .bad) :=
  PE.weak (pe_chain (op_cmpD (ecl := ecl) hu o1) (op_cmpD (ecl := ecl) hu o2) ha hb hc hm) fun σ H Q ⟨m, σd, hd, R, S, p⟩ => chn_read R S p
theorem st_chn {o1 o2 : CmpOp} (hu : X.A.units + 64 < cLine) (hm : lastMarks [o1, o2] [b, c] = false) (ha : SE X ecl W a ca) (hb : SE X ecl W b cb) (hc : SE X ecl W c cc) :
    ST X ecl W (.Compare a [o1, o2] [b, c] pos) (fun σ h => blR ((ca σ h).bind fun x h1 => (cb σ h1).bind fun y h2 => (evCmp o1 x y h2).bind fun k h3 => match k with
      | .bl true => (cc σ h3).bind fun z h4 => evCmp o2 y z h4
      | .bl false => .ok (.bl false) h3
      | _ => .bad)) :=
  PT.weak (pt_chain (op_cmpD (ecl := ecl) hu o1) (op_cmpD (ecl := ecl) hu o2) ha hb hc hm) fun σ H Q ⟨m, σd, hd, R, S, p⟩ => chn_read R S (postG_bl p)
/-! ### and, or, not -/
theorem bl_bind {m : List Addr} {hd : Hd} {H : Hp} {σd : Sg} {σ : St} {Q : VK} {f : Bool → Hd → Res D} (R : Rel X.K m hd H) (S : DenS X.K m H σd σ) (p : Post X.K ecl m H ((blR (ca σd hd)).bind f) Q (WE W σ)) :
    tD X.K ecl W ca σ H (fun v H1 => ∃ k h1 m1, v = .bl k ∧ Step m H m1 H1 ∧ Rel X.K m1 h1 H1 ∧ DenS X.K m1 H1 σd σ ∧ Post X.K ecl m1 H1 (f k h1) Q (WE W σ)) := by
  refine ⟨m, σd, hd, R, S, ?_⟩
  cases e : ca σd hd with
  | ok d h =>
    rw [e] at p
    intro m' H' v s R' q
    cases d with
    | bl k => cases (show v = _ from q); exact ⟨k, h, m', rfl, s, R', S.mono (Step.ext R s), PostG.step s p⟩
    | _ => exact (show False from p).elim
  | exc e' h => rw [e] at p; exact p
  | bad => rw [e] at p; exact p
theorem se_and {rest : List Expr} (ha : SE X ecl W a ca) (hb : SE X ecl W (.BoolOp .And (b :: rest) pos) cb) :
    SE X ecl W (.BoolOp .And (a :: b :: rest) pos) (fun σ h => (blR (ca σ h)).bind fun k h1 => if k = true then cb σ h1 else .ok (.bl false) h1) :=
  PE.weak (pe_and ha hb) fun σ H Q ⟨m, σd, hd, R, S, p⟩ => by
    obtain ⟨m0, s0, h0, r0, S0, p0⟩ := bl_bind R S p
    refine ⟨m0, s0, h0, r0, S0, p0.imp fun x H1 ⟨k, h1, m1, e, s1, R1, S1, p1⟩ => ⟨k, e, ?_⟩⟩
    cases k with
    | true => rw [if_pos rfl] at p1 ⊢; exact ⟨m1, σd, h1, R1, S1, p1⟩
    | false => rw [if_neg Bool.false_ne_true] at p1 ⊢; exact post_bl R1 p1
theorem se_or {rest : List Expr} (ha : SE X ecl W a ca) (hb : SE X ecl W (.BoolOp .Or (b :: rest) pos) cb) :
    SE X ecl W (.BoolOp .Or (a :: b :: rest) pos) (fun σ h => (blR (ca σ h)).bind fun k h1 => if k = true then .ok (.bl true) h1 else cb σ h1) :=
  PE.weak (pe_or ha hb) fun σ H Q ⟨m, σd, hd, R, S, p⟩ => by
    obtain ⟨m0, s0, h0, r0, S0, p0⟩ := bl_bind R S p
    refine ⟨m0, s0, h0, r0, S0, p0.imp fun x H1 ⟨k, h1, m1, e, s1, R1, S1, p1⟩ => ⟨k, e, ?_⟩⟩
    cases k with
    | true => rw [if_pos rfl] at p1 ⊢; exact post_bl R1 p1
    | false => rw [if_neg Bool.false_ne_true] at p1 ⊢; exact ⟨m1, σd, h1, R1, S1, p1⟩
theorem se_not (ha : SE X ecl W a ca) : SE X ecl W (.UnaryOp .Not a pos) (fun σ h => (blR (ca σ h)).bind fun k h1 => .ok (.bl (!k)) h1) :=
  PE.weak (pe_not ha) fun σ H Q ⟨m, σd, hd, R, S, p⟩ => by
    obtain ⟨m0, s0, h0, r0, S0, p0⟩ := bl_bind R S p
    exact ⟨m0, s0, h0, r0, S0, p0.imp fun x H1 ⟨k, h1, m1, e, s1, R1, S1, p1⟩ => ⟨k, e, post_bl R1 p1⟩⟩
theorem sw_and {rest : List Expr} (ha : ST X ecl W a ta) (hb : PW X (.BoolOp .And (b :: rest) pos) (tDT X.K ecl W tb)) :
    PW X (.BoolOp .And (a :: b :: rest) pos) (tDT X.K ecl W fun σ h => (ta σ h).bind fun k h1 => if k = true then tb σ h1 else .ok false h1) :=
  PW.weak (pw_and ha hb) fun σ H Q ⟨m, σd, hd, R, S, p⟩ => by
    obtain ⟨m0, s0, h0, r0, S0, p0⟩ := bindT R S p
    refine ⟨m0, s0, h0, r0, S0, p0.imp fun k H1 ⟨h1, m1, s1, R1, S1, e, p1⟩ => ?_⟩
    cases k with
    | true => rw [if_pos rfl] at p1 ⊢; exact ⟨m1, σd, h1, R1, S1, p1⟩
    | false => rw [if_neg Bool.false_ne_true] at p1 ⊢; exact p1 m1 H1 _ (Step.refl _ _) R1 rfl
theorem sw_or {rest : List Expr} (ha : ST X ecl W a ta) (hb : PW X (.BoolOp .Or (b :: rest) pos) (tDT X.K ecl W tb)) :
    PW X (.BoolOp .Or (a :: b :: rest) pos) (tDT X.K ecl W fun σ h => (ta σ h).bind fun k h1 => if k = true then .ok true h1 else tb σ h1) :=
  PW.weak (pw_or ha hb) fun σ H Q ⟨m, σd, hd, R, S, p⟩ => by
    obtain ⟨m0, s0, h0, r0, S0, p0⟩ := bindT R S p
    refine ⟨m0, s0, h0, r0, S0, p0.imp fun k H1 ⟨h1, m1, s1, R1, S1, e, p1⟩ => ?_⟩
    cases k with
    | true => rw [if_pos rfl] at p1 ⊢; exact p1 m1 H1 _ (Step.refl _ _) R1 rfl
    | false => rw [if_neg Bool.false_ne_true] at p1 ⊢; exact ⟨m1, σd, h1, R1, S1, p1⟩
theorem st_not (ha : ST X ecl W a ta) : ST X ecl W (.UnaryOp .Not a pos) (fun σ h => (ta σ h).bind fun k h1 => .ok (!k) h1) :=
  PT.weak (pt_not ha) fun σ H Q ⟨m, σd, hd, R, S, p⟩ => by
    obtain ⟨m0, s0, h0, r0, S0, p0⟩ := bindT R S p
    exact ⟨m0, s0, h0, r0, S0, p0.imp fun k H1 ⟨h1, m1, s1, R1, S1, e, p1⟩ => p1 m1 H1 _ (Step.refl _ _) R1 rfl⟩
/-- a value's truth as a test -/
theorem st_tru (ha : SE X ecl W a ca) (he : ∀ whole, isTrue a X.env whole = (do let v ← whole; standAt a.pos; holding [v] (truthy v))) : ST X ecl W a (fun σ h => truR (ca σ h)) :=
  PT.weak (pt_truth ha he) fun σ H Q ⟨m, σd, hd, R, S, p⟩ => by
    obtain ⟨m0, s0, h0, r0, S0, p0⟩ := bindE R S p
    refine ⟨m0, s0, h0, r0, S0, p0.imp fun x H1 ⟨d, h1, m1, s1, R1, S1, q, _, p1⟩ => ?_⟩
    split at p1
    · rename_i k ek
      exact ⟨k, tru_den R1 q ek, p1 m1 H1 _ (Step.refl _ _) R1 rfl⟩
    · exact p1.elim
theorem se_ite (hc : ST X ecl W c ta) (ha : SE X ecl W a ca) (hb : SE X ecl W b cb) : SE X ecl W (.IfExp c a b pos) (fun σ h => (ta σ h).bind fun k h1 => if k = true then ca σ h1 else cb σ h1) :=
  PE.weak (pe_ifExp hc ha hb) fun σ H Q ⟨m, σd, hd, R, S, p⟩ => by
    obtain ⟨m0, s0, h0, r0, S0, p0⟩ := bindT R S p
    refine ⟨m0, s0, h0, r0, S0, p0.imp fun k H1 ⟨h1, m1, s1, R1, S1, e, p1⟩ => ?_⟩
    cases k with
    | true => rw [if_pos rfl] at p1 ⊢; exact ⟨m1, σd, h1, R1, S1, p1⟩
    | false => rw [if_neg Bool.false_ne_true] at p1 ⊢; exact ⟨m1, σd, h1, R1, S1, p1⟩
/-! ### rows -/
theorem sa_nil : SA X ecl W [] (fun _ h => .ok [] h) := PA.weak pa_nil fun σ H Q ⟨m, σd, hd, R, S, p⟩ => p m H _ (Step.refl _ _) R rfl
theorem sa_cons {es : List Expr} {cr : Sg → Hd → Res (List D)} (hs : starEach (e :: es) X.env = (false, eval e X.env) :: starEach es X.env) (ha : SE X ecl W e ca) (hr : SA X ecl W es cr) :
    SA X ecl W (e :: es) (fun σ h => (ca σ h).bind fun x h1 => (cr σ h1).bind fun xs h2 => .ok (x :: xs) h2) :=
  PA.weak (pa_cons ha hr hs) fun σ H Q ⟨m, σd, hd, R, S, p⟩ => by
    obtain ⟨m0, s0, h0, r0, S0, p0⟩ := bindE R S p
    refine ⟨m0, s0, h0, r0, S0, p0.imp fun x H1 ⟨d, h1, m1, s1, R1, S1, q, _, p1⟩ => ?_⟩
    obtain ⟨m0, s0, h0, r0, S0, p0⟩ := bindA R1 S1 p1
    exact ⟨m0, s0, h0, r0, S0, p0.imp fun xs H2 ⟨ds, h2, m2, s2, R2, S2, q2, _, p2⟩ => p2 m2 H2 _ (Step.refl _ _) R2 (DenL.cons (q.mono (Step.ext R1 s2)) q2)⟩
theorem se_tup {es : List Expr} {kk : Nat} {cr : Sg → Hd → Res (List D)} (hr : SA X ecl W es cr) : SE X ecl W (.Tuple es kk pos) (fun σ h => (cr σ h).bind fun ds h1 => if ds.length ≤ lim then .ok (.tup ds) h1 else .bad) :=
  PE.weak (dispE hr) fun σ H Q ⟨m, σd, hd, R, S, p⟩ => by
    obtain ⟨m0, s0, h0, r0, S0, p0⟩ := bindA R S p
    refine ⟨m0, s0, h0, r0, S0, p0.imp fun xs H2 ⟨ds, h2, m2, s2, R2, S2, q2, _, p2⟩ => ?_⟩
    split at p2
    · rename_i hc
      exact ⟨by rw [← q2.len]; exact lim_le hc, fun a o na no => post_tup R2 q2 p2 a o na no⟩
    · exact p2.elim
theorem se_lst {es : List Expr} {cr : Sg → Hd → Res (List D)} (hr : SA X ecl W es cr) : SE X ecl W (.List es pos) (fun σ h => (cr σ h).bind fun ds h1 => if ds.length ≤ lim then .ok (.ref h1.length) (h1 ++ [.lst ds]) else .bad) :=
  PE.weak (pe_lst hr) fun σ H Q ⟨m, σd, hd, R, S, p⟩ => by
    obtain ⟨m0, s0, h0, r0, S0, p0⟩ := bindA R S p
    refine ⟨m0, s0, h0, r0, S0, p0.imp fun xs H2 ⟨ds, h2, m2, s2, R2, S2, q2, _, p2⟩ => ?_⟩
    split at p2
    · rename_i hc
      exact ⟨by rw [← q2.len]; exact lim_le hc, fun a na => post_lst R2 q2 p2 a na⟩
    · exact p2.elim
/-! ### subscripts -/
theorem se_ix (hu : X.A.units + 1 < cLine) (hs : ∀ o i, subscripted b false o i = operate [o, i] (getItem o i)) (ha : SE X ecl W a ca) (hb : SE X ecl W b cb) :
    SE X ecl W (.Subscript a b pos) (fun σ h => (ca σ h).bind fun x h1 => (cb σ h1).bind fun y h2 => evIx x y h2) :=
  PE.weak (PE.or (pe_ix (ix_seqD (ecl := ecl)) ha hb hs) (pe_dget hu ha hb hs)) fun σ H Q ⟨m, σd, hd, R, S, p⟩ => by
    have go := bindE R S p
    by_cases hdic : ∃ k h1 kvs y h2, ca σd hd = .ok (.ref k) h1 ∧ cb σd h1 = .ok y h2 ∧ h2[k]? = some (.dic kvs)
    · obtain ⟨k, h1', kvs, y', h2', ea, eb, el⟩ := hdic
      obtain ⟨m0, s0, h0, r0, S0, p0⟩ := go
      refine .inr ⟨m0, s0, h0, r0, S0, p0.imp fun x H1 ⟨d, h1, m1, s1, R1, S1, q, e1, p1⟩ => ?_⟩
      rw [ea] at e1
      cases e1
      obtain ⟨m0, s0, h0, r0, S0, p0⟩ := bindE R1 S1 p1
      refine ⟨m0, s0, h0, r0, S0, p0.imp fun y H2 ⟨d2, h2, m2, s2, R2, S2, q2, e2, p2⟩ => ?_⟩
      rw [eb] at e2
      cases e2
      simp only [evIx, el] at p2
      cases ek : toKey y' with
      | none => rw [ek] at p2; exact (show False from p2).elim
      | some key =>
        rw [ek] at p2
        obtain ⟨d, e, p2⟩ := post_okd p2
        obtain ⟨a, v, ex, g, qv⟩ := dget_den R2 (q.mono (Step.ext R1 s2)) q2 el ek e
        exact ⟨a, v, ex, g, post_same R2 qv p2⟩
    · obtain ⟨m0, s0, h0, r0, S0, p0⟩ := go
      refine .inl ⟨m0, s0, h0, r0, S0, p0.imp fun x H1 ⟨d, h1, m1, s1, R1, S1, q, e1, p1⟩ => ?_⟩
      obtain ⟨m0, s0, h0, r0, S0, p0⟩ := bindE R1 S1 p1
      refine ⟨m0, s0, h0, r0, S0, p0.imp fun y H2 ⟨d2, h2, m2, s2, R2, S2, q2, e2, p2⟩ => ⟨m2, h2, d, d2, _, R2, q.mono (Step.ext R1 s2), q2, fun k kvs ed ek => ?_, p2⟩⟩
      subst ed
      exact hdic ⟨k, h1, kvs, d2, h2, e1, e2, ek⟩
theorem so_no : PO X none (tDO X.K ecl W fun _ h => .ok none h) := PO.weak po_none fun σ H Q ⟨m, σd, hd, R, S, p⟩ => p m H _ (Step.refl _ _) R rfl
theorem so_yes (ha : SE X ecl W a ca) : PO X (some a) (tDO X.K ecl W fun σ h => (ca σ h).bind fun x h1 => match x with | .int i => .ok (some i) h1 | _ => .bad) :=
  PO.weak (po_some ha) fun σ H Q ⟨m, σd, hd, R, S, p⟩ => by
    obtain ⟨m0, s0, h0, r0, S0, p0⟩ := bindE R S p
    refine ⟨m0, s0, h0, r0, S0, p0.imp fun x H1 ⟨d, h1, m1, s1, R1, S1, q, _, p1⟩ => ?_⟩
    split at p1
    · cases (show x = _ from q)
      exact ⟨_, rfl, p1 m1 H1 _ (Step.refl _ _) R1 rfl⟩
    · exact p1.elim
theorem se_sl {lo hi : Option Expr} {p2 : Pos} {cl ch : Sg → Hd → Res (Option Int)} (ha : SE X ecl W a ca) (hl : PO X lo (tDO X.K ecl W cl)) (hh : PO X hi (tDO X.K ecl W ch)) :
    SE X ecl W (.Subscript a (.Slice lo hi none p2) pos) (fun σ h => (ca σ h).bind fun x h1 => (cl σ h1).bind fun l h2 => (ch σ h2).bind fun u h3 => evSl x l u h3) :=
  PE.weak (pe_slice (sl_den (ecl := ecl)) ha hl hh) fun σ H Q ⟨m, σd, hd, R, S, p⟩ => by
    obtain ⟨m0, s0, h0, r0, S0, p0⟩ := bindE R S p
    refine ⟨m0, s0, h0, r0, S0, p0.imp fun x H1 ⟨d, h1, m1, s1, R1, S1, q, _, p1⟩ => ?_⟩
    obtain ⟨m0, s0, h0, r0, S0, p0⟩ := bindO R1 S1 p1
    refine ⟨m0, s0, h0, r0, S0, p0.imp fun l H2 ⟨h2, m2, s2, R2, S2, _, p2⟩ => ?_⟩
    obtain ⟨m0, s0, h0, r0, S0, p0⟩ := bindO R2 S2 p2
    exact ⟨m0, s0, h0, r0, S0, p0.imp fun u H3 ⟨h3, m3, s3, R3, S3, _, p3⟩ => ⟨m3, h3, d, _, R3, (q.mono (Step.ext R1 s2)).mono (Step.ext R2 s3), p3⟩⟩
/-! ### calls -/
/-- what a def promises: what the oracle says -/
def spF (K : PySem.W.Frag) (ecl : Nat → Value) (F : Orc) (i : Nat) : Sp := fun vs H Q E => ∃ m hd ds, Rel K m hd H ∧ DenL K m H ds vs ∧ Post K ecl m H (F i ds hd) Q E
theorem se_call {F : Orc} {i k : Nat} {f : Addr} {fd : FuncData} {ps : List Str} {x : Str} {p : Pos} {es : List Expr} {cr : Sg → Hd → Res (List D)}
    (G : FnOk X.prog X.w X.K X.mg X.base (L2.CX X.prog X.w) k f fd ps (spF X.K ecl F i)) (hr : Room k X.A) (hg : Gl X x) (hm : X.mg x = some (.ref f)) (hk : PySem.W.keepIn X.K (.ref f) = true) (hb : Binds X.K fd ps [])
    (tk : Takes X W) (ha : SA X ecl W (e :: es) cr) (hdb : (x == ("__debug__" : Str)) = false) (he : starEach (e :: es) X.env = (false, eval e X.env) :: starEach es X.env) (hpl : (backTo pos (starEach es X.env)).any (·.1) = false) :
    SE X ecl W (.Call (.Name x p) (e :: es) [] pos) (fun σ h => (cr σ h).bind fun ds h1 => F i ds h1) :=
  PE.weak (pe_callS (E := WE W) G hr hg hm hk hb (fun σ => passAt tk σ) ha hdb he hpl) fun σ H Q ⟨m, σd, hd, R, S, p⟩ => by
    obtain ⟨m0, s0, h0, r0, S0, p0⟩ := bindA R S p
    exact ⟨m0, s0, h0, r0, S0, p0.imp fun xs H2 ⟨ds, h2, m2, s2, R2, S2, q2, _, p2⟩ => ⟨m2, h2, ds, R2, q2, p2⟩⟩
theorem se_bi {b : Bi} {id : String} {x : Str} {p : Pos} {es : List Expr} {cr : Sg → Hd → Res (List D)} (hc : CallR X (.builtin id) (rC X.K ecl (evBi b))) (hg : Gl X x) (hm : X.mg x = none) (hv : bootBuiltins x = some (.builtin id))
    (ha : SA X ecl W (e :: es) cr) (hn : x ≠ "__name__") (hdb : (x == ("__debug__" : Str)) = false) (he : starEach (e :: es) X.env = (false, eval e X.env) :: starEach es X.env) (hpl : (backTo pos (starEach es X.env)).any (·.1) = false) :
    SE X ecl W (.Call (.Name x p) (e :: es) [] pos) (fun σ h => (cr σ h).bind fun ds h1 => evBi b ds h1) :=
  PE.weak (pe_callB hc hg hm hv ha hn hdb he hpl) fun σ H Q ⟨m, σd, hd, R, S, p⟩ => by
    obtain ⟨m0, s0, h0, r0, S0, p0⟩ := bindA R S p
    exact ⟨m0, s0, h0, r0, S0, p0.imp fun xs H2 ⟨ds, h2, m2, s2, R2, S2, q2, _, p2⟩ => ⟨m2, h2, ds, _, R2, q2, p2⟩⟩
theorem se_ty {b : Bi} {T : String} {x : Str} {p : Pos} {es : List Expr} {cr : Sg → Hd → Res (List D)} (hc : CallR X (.type T) (rC X.K ecl (evBi b))) (hg : Gl X x) (hm : X.mg x = none) (hv : bootBuiltins x = some (.type T))
    (ha : SA X ecl W (e :: es) cr) (hn : x ≠ "__name__") (hdb : (x == ("__debug__" : Str)) = false) (he : starEach (e :: es) X.env = (false, eval e X.env) :: starEach es X.env) (hpl : (backTo pos (starEach es X.env)).any (·.1) = false) :
    SE X ecl W (.Call (.Name x p) (e :: es) [] pos) (fun σ h => (cr σ h).bind fun ds h1 => evBi b ds h1) :=
  PE.weak (pe_callTy hc hg hm hv ha hn hdb he hpl) fun σ H Q ⟨m, σd, hd, R, S, p⟩ => by
    obtain ⟨m0, s0, h0, r0, S0, p0⟩ := bindA R S p
    exact ⟨m0, s0, h0, r0, S0, p0.imp fun xs H2 ⟨ds, h2, m2, s2, R2, S2, q2, _, p2⟩ => ⟨m2, h2, ds, _, R2, q2, p2⟩⟩
theorem isi_calm {t : Ty} {x : Str} {p : Pos} {tn : Expr} (htn : PE X tn (tC (.ty t.v))) (hg : Gl X x) (hm : X.mg x = none) (hv : bootBuiltins x = some (.builtin "isinstance")) (ha : SE X ecl W a ca) (hn : x ≠ "__name__") (hdb : (x == ("__debug__" : Str)) = false)
    (he : starEach [a, tn] X.env = (false, eval a X.env) :: starEach [tn] X.env) (he2 : starEach [tn] X.env = (false, eval tn X.env) :: starEach [] X.env) (hpl : (backTo pos (starEach [tn] X.env)).any (·.1) = false) :
    SE X ecl W (.Call (.Name x p) [a, tn] [] pos) (fun σ h => (ca σ h).bind fun x h1 => okb (isiD h1 x t) h1) :=
  PE.weak (pe_callB call_isi hg hm hv (pa_cons ha (pa_cons htn pa_nil he2) he) hn hdb he hpl) fun σ H Q ⟨m, σd, hd, R, S, p⟩ => by
    obtain ⟨m0, s0, h0, r0, S0, p0⟩ := bindE R S p
    refine ⟨m0, s0, h0, r0, S0, p0.imp fun x H1 ⟨d, h1, m1, s1, R1, S1, q, _, p1⟩ => ?_⟩
    cases e : isiD h1 d t with
    | none => rw [e] at p1; exact p1.elim
    | some k =>
      rw [e] at p1
      obtain ⟨T, ty, kt⟩ := isi_den R1 q e
      exact ⟨x, .ty t.v, .type T, .type t.v, k, rfl, .ty _, ty, kt, post_bl R1 p1⟩
/-- the type of what bears the method -/
def Me.ty (m : Me) (d : D) : String := match m with
  | .append | .extend | .pop => "list"
  | .split | .partition | .join | .startswith | .upper => "str"
  | .count => (match d with | .tup _ => "tuple" | _ => "str")
/-- of that type, with no dict of its own -/
def TyE (K : PySem.W.Frag) (T : String) (x : V) (H : Hp) : Prop := tyV K T x H ∨ (T = "tuple" ∧ ∃ p xs, x = .ref p ∧ SqE K H p xs)
theorem tyE_is {pins : List (Addr × Obj)} {σ : St} {H : Hp} {s : Shared} {T : String} {x : V} {v : Value} (I : Inv X pins σ H s) (r : RelV x v) (ty : TyE X.K T x H) :
    s.TypeIs v T ∧ ∀ a, v = .ref a → ∃ ob, s.heap.get? a = some ob ∧ ob.dict = none := by
  rcases ty with ty | ⟨rfl, p, xs, rfl, hs⟩
  · exact tyV_is I r ty
  · cases r
    obtain ⟨its, _, tt, _⟩ := I.tuple hs.t
    refine ⟨tt.typeIs, fun a e => ?_⟩
    cases e
    rcases hs with ⟨o, ho, nd⟩ | ⟨o, _, _, hk, _, nd, _⟩
    · exact ⟨o, (I.hok p _ ho).1, nd⟩
    · exact ⟨o, I.kIn p o hk, nd⟩
/-- a method, told by what bears it -/
structure MeD (X : Cx) (ecl : Nat → Value) (mt : Me) (name : Str) : Prop where
  at_ : ∀ (m : List Addr) (h : Hd) (H : Hp) (d : D) (v : V), Rel X.K m h H → Den X.K m H d v → okMe mt d h = true → ∃ (id : String) (r : V → List V → Hp → VK → Prop), PlainAttrs (mt.ty d) ∧ Slot (mt.ty d) name id ∧ typeOf (.builtin id) = pure (.type "method_descriptor") ∧ MtR X id r ∧ TyE X.K (mt.ty d) v H ∧
    ∀ m2 h2 H2 x xs ds Q E, Rel X.K m2 h2 H2 → Den X.K m2 H2 d x → DenL X.K m2 H2 ds xs → Post X.K ecl m2 H2 (evMe mt d ds h2) Q E → r x xs H2 Q
theorem me_lstT {K : PySem.W.Frag} {m : List Addr} {h : Hd} {H : Hp} {d : D} {v : V} (R : Rel K m h H) (q : Den K m H d v) (p : okMe .append d h = true) : tyV K "list" v H := by
  cases d with
  | ref k =>
    obtain ⟨a, rfl, ea⟩ := q
    simp only [okMe] at p
    split at p
    · rename_i el
      obtain ⟨vs, k1, _⟩ := R.lst el ea
      exact .inl ⟨rfl, vs, SqL.of k1⟩
    · cases p
  | _ => cases p
theorem me_strT {K : PySem.W.Frag} {m : List Addr} {h : Hd} {H : Hp} {d : D} {v : V} (q : Den K m H d v) (p : okMe .split d h = true) : tyV K "str" v H := by
  cases d with
  | str s =>
    cases (show v = _ from q)
    exact (show "str" = "str" from rfl)
  | _ => cases p
/-- a method of one type -/
theorem meD_one {mt : Me} {name : Str} {id T : String} (hT : ∀ d, mt.ty d = T) (pa : PlainAttrs T) (slot : Slot T name id) (hty : typeOf (.builtin id) = pure (.type "method_descriptor")) (hm : MtR X id (rM X.K ecl (evMe mt)))
    (ht : ∀ m h H d v, Rel X.K m h H → Den X.K m H d v → okMe mt d h = true → tyV X.K T v H) : MeD X ecl mt name :=
  ⟨fun m h H d v R q ok => ⟨id, _, by rw [hT]; exact pa, by rw [hT]; exact slot, hty, hm, by rw [hT]; exact .inl (ht m h H d v R q ok), fun m2 h2 H2 x xs ds Q E R2 q2 q3 p => ⟨m2, h2, d, ds, E, R2, q2, q3, p⟩⟩⟩
theorem meD_count (hu : X.A.units + 64 < cLine) : MeD X ecl .count "count" := ⟨fun m h H d v R q ok => by
  cases d with
  | tup l =>
    refine ⟨_, _, PySem.F.plainAttrs_tuple, PySem.F.slot_tuple_count, PySem.F.type_tuple_count, me_countT (ecl := ecl) hu, ?_, fun m2 h2 H2 x xs ds Q E R2 q2 q3 p => ⟨m2, h2, _, ds, E, R2, q2, q3, rfl, p⟩⟩
    obtain ⟨p, vs, rfl, h1, _⟩ := q
    exact .inr ⟨rfl, p, vs, rfl, h1⟩
  | str s =>
    exact ⟨_, _, PySem.F.plainAttrs_str, PySem.F.slot_str_count, PySem.F.type_str_count, me_countS (ecl := ecl), .inl (me_strT (h := h) q rfl), fun m2 h2 H2 x xs ds Q E R2 q2 q3 p => ⟨m2, h2, _, ds, E, R2, q2, q3, rfl, p⟩⟩
  | _ => cases ok⟩
theorem se_me {mt : Me} {name : Str} {o : Expr} {apos : Pos} {es : List Expr} {co : Sg → Hd → Res D} {cr : Sg → Hd → Res (List D)} (md : MeD X ecl mt name)
    (ho : SE X ecl W o co) (ha : SA X ecl W (e :: es) cr) (hbase : attributeBase o name X.env (eval o X.env) = eval o X.env)
    (hfew : ((backTo pos (starEach (e :: es) X.env)).all (fun x => !x.1) && (backToKw pos (keywordEach [] X.env)).all (fun x => x.1.isSome)
      && decide ((e :: es).length + ([] : List Keyword).length + (if ([] : List Keyword).isEmpty then 0 else 1) < 30)) = true)
    (hline : (apos.endLine == pos.line) = true) (hs : starEach (e :: es) X.env = (false, eval e X.env) :: starEach es X.env) (hplain : (backTo pos (starEach es X.env)).any (·.1) = false) :
    SE X ecl W (.Call (.Attribute o name apos) (e :: es) [] pos) (fun σ h => (co σ h).bind fun x h1 => if okMe mt x h1 = true then (cr σ h1).bind fun ds h2 => evMe mt x ds h2 else .bad) := by
  refine ⟨fun pins s σ H Q I ⟨m, σd, hd, R, S, p⟩ => ?_⟩
  obtain ⟨m0, s0, h0, r0, S0, p0⟩ := bindE R S p
  refine wpAny_Call_method_late hbase hfew hline rfl (thn (ho.run pins s σ H _ I ⟨m0, s0, h0, r0, S0, p0⟩) ?_)
  rintro v s1 ⟨x, H1, I1, r1, d, h1, m1, st1, R1, S1, q, _, p1⟩
  split at p1
  · rename_i hok
    obtain ⟨id, r, pa, slot, hty, hm, ty, back⟩ := md.at_ m1 h1 H1 d x R1 q hok
    obtain ⟨t1, t2⟩ := tyE_is I1 r1 ty
    refine ⟨mt.ty d, id, pa, slot, hty, t1, t2, ?_⟩
    obtain ⟨m0, s0, h0, r0, S0, p0⟩ := bindA R1 S1 p1
    have run := ha.run pos pins s1 σ H1 _ I1 ⟨m0, s0, h0, r0, S0, p0⟩
    rw [hs] at run ⊢
    refine Calls.callWith_builtin (by show (false || (backTo pos (starEach es X.env)).any (·.1)) = false; rw [hplain] <;> rfl) (Calls.evalArgs_plain (thn run ?_))
    rintro us s2 ⟨xs, H2, I2, r2, ds, h2, m2, st2, R2, S2, q2, _, p2⟩
    exact hm pins s2 σ H2 x xs v us Q I2 r1 r2 (back m2 h2 H2 x xs ds Q _ R2 (q.mono (Step.ext R1 st2)) q2 p2)
  · exact p1.elim
theorem se_me0 {mt : Me} {name : Str} {o : Expr} {apos : Pos} {co : Sg → Hd → Res D} (md : MeD X ecl mt name)
    (ho : SE X ecl W o co) (hbase : attributeBase o name X.env (eval o X.env) = eval o X.env) (hline : (apos.endLine == pos.line) = true) :
    SE X ecl W (.Call (.Attribute o name apos) [] [] pos) (fun σ h => (co σ h).bind fun x h1 => if okMe mt x h1 = true then (Res.ok ([] : List D) h1).bind fun ds h2 => evMe mt x ds h2 else .bad) := by
  refine ⟨fun pins s σ H Q I ⟨m, σd, hd, R, S, p⟩ => ?_⟩
  obtain ⟨m0, s0, h0, r0, S0, p0⟩ := bindE R S p
  refine wpAny_Call_method0_late hbase hline (thn (ho.run pins s σ H _ I ⟨m0, s0, h0, r0, S0, p0⟩) ?_)
  rintro v s1 ⟨x, H1, I1, r1, d, h1, m1, st1, R1, S1, q, _, p1⟩
  split at p1
  · rename_i hok
    obtain ⟨id, r, pa, slot, hty, hm, ty, back⟩ := md.at_ m1 h1 H1 d x R1 q hok
    obtain ⟨t1, t2⟩ := tyE_is I1 r1 ty
    exact ⟨mt.ty d, id, pa, slot, hty, t1, t2, Calls.callWith_builtin rfl (PySem.evalArgs_none (hm pins s1 σ H1 x [] v [] Q I1 r1 .nil (back m1 h1 H1 x [] [] Q _ R1 q DenL.nil p1)))⟩
  · exact p1.elim
/-- list(reversed(x)) -/
theorem se_rev {e : Expr} {ce : Sg → Hd → Res D} {p p2 pos2 : Pos} (hc : X.calm = true) (g1 : Gl X "list") (m1 : X.mg "list" = none) (g2 : Gl X "reversed") (m2 : X.mg "reversed" = none) (he : SE X ecl W e ce) (n1 : starEach [e] X.env = (false, eval e X.env) :: starEach [] X.env)
    (n2 : starEach [.Call (.Name "reversed" p2) [e] [] pos2] X.env = (false, eval (.Call (.Name "reversed" p2) [e] [] pos2) X.env) :: starEach [] X.env) :
    SE X ecl W (.Call (.Name "list" p) [.Call (.Name "reversed" p2) [e] [] pos2] [] pos) (fun σ h => (ce σ h).bind fun x h1 => evBi .rev [x] h1) :=
  PE.weak (pe_listRev hc g1 m1 g2 m2 he n1 n2) fun σ H Q ⟨m, σd, hd, R, S, p⟩ => by
    obtain ⟨m0, s0, h0, r0, S0, p0⟩ := bindE R S p
    refine ⟨m0, s0, h0, r0, S0, p0.imp fun x H1 ⟨d, h1, m1, s1, R1, S1, q, _, p1⟩ => ?_⟩
    simp only [evBi] at p1
    split at p1
    · rename_i l el
      obtain ⟨a, vs, rfl, k1, k2⟩ := den_list R1 q el
      exact ⟨a, vs, rfl, k1, fun b nb => post_lst R1 k2.reverse p1 b nb⟩
    · exact p1.elim
end
end Eg
set_option maxHeartbeats 4000000
/-! Part 6: walks, comprehensions, dict displays. -/
namespace Eg
open PySem PySem.Spec PyProof.Rows L2

/-! ### what is walked -/
/-- the iterator J gives the items while the list they came from stays -/
def Walks (K : PySem.W.Frag) (m0 : List Addr) (H0 : Hp) (J : L2.It) (items : List D) (src : Option Nat) : Prop :=
  ∀ (i : Nat) (m : List Addr) (h : Hd) (H : Hp), Step m0 H0 m H → Rel K m h H → stays src items h →
    (∀ d, items[i]? = some d → J.go i H ∧ ∀ x H', J.yld i H x H' → Step m H m H' ∧ Rel K m h H' ∧ Den K m H' d x) ∧ (items.length ≤ i → J.stop i H)
section
variable (K : PySem.W.Frag) (ecl : Nat → Value) (W : WX)
abbrev PostI (m : List Addr) (H : Hp) (r : Res (List D × Option Nat)) (Q : L2.It → Hp → Prop) (E : XK) : Prop := PostG K ecl (fun m' H' (p : List D × Option Nat) J => Walks K m' H' J p.1 p.2) m H r Q E
def tDI (c : Sg → Hd → Res (List D × Option Nat)) : TI := fun σ H R => ∃ m σd hd, Rel K m hd H ∧ DenS K m H σd σ ∧ PostI K ecl m H (c σd hd) R (WE W σ)
end
section
variable {K : PySem.W.Frag} {ecl : Nat → Value} {W : WX} {m : List Addr} {hd : Hd} {H : Hp}
theorem walks_tup {l : List D} {a : Addr} {vs : List V} (R : Rel K m hd H) (h1 : SqT K H a vs) (h2 : DenL K m H l vs) : Walks K m H (Itt K a) l none := by
  intro i m' h' H' s R' _
  have x := Step.ext R s
  refine ⟨fun d e => ?_, fun e => ⟨vs, x.sqT h1, by rw [← h2.len]; exact e⟩⟩
  obtain ⟨v, e1, q⟩ := h2.get e
  exact ⟨⟨vs, v, x.sqT h1, e1⟩, fun y H2 ⟨eh, hy⟩ => by
    subst eh
    have e2 := hy vs (x.sqT h1)
    rw [e1] at e2
    cases e2
    exact ⟨Step.refl _ _, R', q.mono x⟩⟩
theorem walks_fl {l : List D} {a : Addr} {vs : List V} (R : Rel K m hd H) (h1 : SqF K H a vs) (h2 : DenL K m H l vs) : Walks K m H (Itl K a) l none := by
  intro i m' h' H' s R' _
  have x := Step.ext R s
  refine ⟨fun d e => ?_, fun e => ⟨vs, (x.sqF h1).l, by rw [← h2.len]; exact e⟩⟩
  obtain ⟨v, e1, q⟩ := h2.get e
  exact ⟨⟨vs, v, (x.sqF h1).l, e1⟩, fun y H2 ⟨eh, hy⟩ => by
    subst eh
    have e2 := hy vs (x.sqF h1).l
    rw [e1] at e2
    cases e2
    exact ⟨Step.refl _ _, R', q.mono x⟩⟩
theorem walks_ref {l : List D} {k : Nat} {a : Addr} (ea : m[k]? = some a) : Walks K m H (Itl K a) l (some k) := by
  intro i m' h' H' s R' st
  obtain ⟨vs, k1, k2⟩ := R'.lst (show h'[k]? = some (.lst l) from st) (pre_get s.pre ea)
  refine ⟨fun d e => ?_, fun e => ⟨vs, SqL.of k1, by rw [← k2.len]; exact e⟩⟩
  obtain ⟨v, e1, q⟩ := k2.get e
  exact ⟨⟨vs, v, SqL.of k1, e1⟩, fun y H2 ⟨eh, hy⟩ => by
    subst eh
    have e2 := hy vs (SqL.of k1)
    rw [e1] at e2
    cases e2
    exact ⟨Step.refl _ _, R', q⟩⟩
theorem walks_str {s : Str} : Walks K m H (Its s) (s.cps.toList.map fun c => D.str ⟨#[c]⟩) none := by
  intro i m' h' H' st R' _
  refine ⟨fun d e => ?_, fun e => ?_⟩
  · rw [List.getElem?_map, Array.getElem?_toList] at e
    cases e1 : s.cps[i]? with
    | none => rw [e1] at e; cases e
    | some c =>
      rw [e1] at e
      cases e
      refine ⟨?_, fun y H2 ⟨eh, c', e2, ey⟩ => ?_⟩
      · show i < s.cps.size
        exact (Array.getElem?_eq_some_iff.mp e1).1
      · subst eh
        rw [e1] at e2
        cases e2
        exact ⟨Step.refl _ _, R', ey⟩
  · show s.cps.size ≤ i
    simpa using e
theorem walks_rng {lo : Int} {n : Nat} : Walks K m H (Itr lo n) (rngL lo n) none := by
  intro i m' h' H' st R' _
  refine ⟨fun d e => ?_, fun e => ?_⟩
  · unfold rngL at e
    rw [List.getElem?_map] at e
    cases e1 : (List.range n)[i]? with
    | none => rw [e1] at e; cases e
    | some c =>
      rw [e1] at e
      cases e
      obtain ⟨h1, h2⟩ := List.getElem?_eq_some_iff.mp e1
      rw [List.getElem_range] at h2
      subst h2
      rw [List.length_range] at h1
      exact ⟨h1, fun y H2 ⟨eh, ey⟩ => by
        subst eh
        exact ⟨Step.refl _ _, R', ey⟩⟩
  · unfold rngL at e
    show n ≤ i
    simpa using e
end

section
variable {X : Cx} {ecl : Nat → Value} {W : WX} {a b c e tg : Expr} {ca cb : Sg → Hd → Res D} {pos : Pos}
abbrev SI (X : Cx) (ecl : Nat → Value) (W : WX) (tg e : Expr) (c : Sg → Hd → Res (List D × Option Nat)) : Prop := PI X tg e (tDI X.K ecl W c)
/-- a value's items -/
theorem si_of (ha : SE X ecl W e ca) : SI X ecl W tg e (fun σ h => (ca σ h).bind fun x h1 => match itemsOf h1 x with | some p => .ok p h1 | none => .bad) :=
  PI.weak (PI.or (pi_list ha) (PI.or (pi_tup ha) (pi_str ha))) fun σ H Rr ⟨m, σd, hd, R, S, p⟩ => by
    have go := bindE R S p
    dsimp only at p
    cases e1 : ca σd hd with
    | bad => rw [e1] at p; exact (show False from p).elim
    | exc x h' =>
      rw [e1] at p
      exact .inl ⟨m, σd, hd, R, S, by rw [e1]; exact p⟩
    | ok d h1 =>
      obtain ⟨m0, s0, h0, r0, S0, p0⟩ := go
      cases d with
      | tup l =>
        refine .inr (.inl ⟨m0, s0, h0, r0, S0, p0.imp fun v H1 ⟨d', h1', m1, s1, R1, S1, q, e2, p1⟩ => ?_⟩)
        rw [e1] at e2
        cases e2
        obtain ⟨a, vs, rfl, k1, k2⟩ := q
        exact ⟨a, rfl, ⟨vs, k1.t⟩, p1 m1 H1 _ (Step.refl _ _) R1 (walks_tup R1 k1.t k2)⟩
      | fl l =>
        refine .inl ⟨m0, s0, h0, r0, S0, p0.imp fun v H1 ⟨d', h1', m1, s1, R1, S1, q, e2, p1⟩ => ?_⟩
        rw [e1] at e2
        cases e2
        obtain ⟨a, vs, rfl, k1, k2⟩ := q
        exact ⟨a, rfl, ⟨vs, k1.l⟩, p1 m1 H1 _ (Step.refl _ _) R1 (walks_fl R1 k1 k2)⟩
      | str z =>
        refine .inr (.inr ⟨m0, s0, h0, r0, S0, p0.imp fun v H1 ⟨d', h1', m1, s1, R1, S1, q, e2, p1⟩ => ?_⟩)
        rw [e1] at e2
        cases e2
        cases (show v = _ from q)
        exact ⟨z, rfl, p1 m1 H1 _ (Step.refl _ _) R1 walks_str⟩
      | ref k =>
        refine .inl ⟨m0, s0, h0, r0, S0, p0.imp fun v H1 ⟨d', h1', m1, s1, R1, S1, q, e2, p1⟩ => ?_⟩
        rw [e1] at e2
        cases e2
        obtain ⟨a, rfl, ea⟩ := q
        simp only [itemsOf] at p1
        cases el : h1[k]? with
        | none => simp only [el] at p1; exact (show False from p1).elim
        | some ob =>
          cases ob with
          | dic l => simp only [el] at p1; exact (show False from p1).elim
          | lst l =>
            simp only [el] at p1
            obtain ⟨vs, k1, k2⟩ := R1.lst el ea
            exact ⟨a, rfl, ⟨vs, SqL.of k1⟩, p1 m1 H1 _ (Step.refl _ _) R1 (walks_ref ea)⟩
      | _ => rw [e1] at p; exact (show False from p).elim
theorem si_rng1 {pp : Pos} (hg : Gl X "range") (hm : X.mg "range" = none) (ha : SE X ecl W a ca) (hs : starEach [a] X.env = [(false, eval a X.env)]) :
    SI X ecl W tg (.Call (.Name "range" pp) [a] [] pos) (fun σ h => (ca σ h).bind fun x h1 => match x with | .int j => if -(2 ^ 62) ≤ j ∧ j < 2 ^ 62 then .ok (rngL 0 j.toNat, none) h1 else .bad | _ => .bad) :=
  PI.weak (pi_range1 hg hm (pa_cons ha pa_nil hs) hs) fun σ H Rr ⟨m, σd, hd, R, S, p⟩ => by
    obtain ⟨m0, s0, h0, r0, S0, p0⟩ := bindE R S p
    refine ⟨m0, s0, h0, r0, S0, p0.imp fun v H1 ⟨d, h1, m1, s1, R1, S1, q, e2, p1⟩ => ?_⟩
    split at p1
    · cases (show v = _ from q)
      split at p1
      · rename_i hc
        exact ⟨_, rfl, hc.1, hc.2, p1 m1 H1 _ (Step.refl _ _) R1 walks_rng⟩
      · exact p1.elim
    · exact p1.elim
theorem si_rng2 {pp : Pos} (hg : Gl X "range") (hm : X.mg "range" = none) (ha : SE X ecl W a ca) (hb : SE X ecl W b cb) (hs : starEach [a, b] X.env = [(false, eval a X.env), (false, eval b X.env)]) (hs2 : starEach [b] X.env = [(false, eval b X.env)]) :
    SI X ecl W tg (.Call (.Name "range" pp) [a, b] [] pos) (fun σ h => (ca σ h).bind fun x h1 => (cb σ h1).bind fun y h2 => match x, y with
      | .int i, .int j => if -(2 ^ 62) ≤ i ∧ i < 2 ^ 62 ∧ -(2 ^ 62) ≤ j ∧ j < 2 ^ 62 then .ok (rngL i (j - i).toNat, none) h2 else .bad
      | _, _ => .bad) :=
  PI.weak (pi_range2 hg hm (pa_cons ha (pa_cons hb pa_nil hs2) (by rw [hs, hs2])) hs hs2) fun σ H Rr ⟨m, σd, hd, R, S, p⟩ => by
    obtain ⟨m0, s0, h0, r0, S0, p0⟩ := bindE R S p
    refine ⟨m0, s0, h0, r0, S0, p0.imp fun v H1 ⟨d, h1, m1, s1, R1, S1, q, e2, p1⟩ => ?_⟩
    obtain ⟨m0, s0, h0, r0, S0, p0⟩ := bindE R1 S1 p1
    refine ⟨m0, s0, h0, r0, S0, p0.imp fun w H2 ⟨d2, h2, m2, s2, R2, S2, q2, e2, p2⟩ => ?_⟩
    split at p2
    · cases (show v = _ from q); cases (show w = _ from q2)
      split at p2
      · rename_i hc
        exact ⟨_, _, rfl, hc, p2 m2 H2 _ (Step.refl _ _) R2 walks_rng⟩
      · exact p2.elim
    · exact p2.elim

/-! ### targets -/
def Tg.sl : Tg → List Nat
  | .nm i => [i]
  | .tp is => is
/-- alike outside of some slots -/
def Off (is : List Nat) (σ σ' : St) : Prop := σ'.length = σ.length ∧ ∀ j, j ∉ is → σ'[j]? = σ[j]?
theorem Off.set {is : List Nat} {σ : St} {i : Nat} {v : Option V} : Off (i :: is) σ (σ.set i v) :=
  ⟨List.length_set, fun j hj => by rw [List.getElem?_set_ne (fun z => hj (by rw [← z]; exact List.mem_cons_self))]⟩
theorem Off.trans {is js : List Nat} {σ σ1 σ2 : St} (a : Off is σ σ1) (b : Off js σ1 σ2) (h1 : ∀ x ∈ is, x ∈ js) : Off js σ σ2 :=
  ⟨b.1.trans a.1, fun j hj => (b.2 j hj).trans (a.2 j fun z => hj (h1 j z))⟩
theorem wipe_get (σ : St) : ∀ (vs : List Nat) (j : Nat), (wipe σ vs)[j]? = if j ∈ vs then (if j < σ.length then some none else none) else σ[j]?
  | [], j => by simp [wipe]
  | v :: vs, j => by
    unfold wipe
    rw [List.getElem?_set, wipe_length, wipe_get σ vs j]
    by_cases h : v = j
    · subst h
      simp
    · have h' : ¬ j = v := fun z => h z.symm
      simp [h, h']
theorem wipe_off {is vs : List Nat} {σ σ' : St} (o : Off is (wipe σ vs) σ') (hs : ∀ i ∈ is, i ∈ vs) : wipe σ' vs = wipe σ vs := by
  apply List.ext_getElem?
  intro j
  rw [wipe_get, wipe_get]
  have hl : σ'.length = σ.length := o.1.trans (wipe_length _ _)
  by_cases hj : j ∈ vs
  · rw [if_pos hj, if_pos hj, hl]
  · rw [if_neg hj, if_neg hj, o.2 j fun z => hj (hs j z), wipe_get, if_neg hj]
def tDG (K : PySem.W.Frag) (is : List Nat) (f : D → Sg → Option Sg) : TG := fun v σ H Q => ∃ m h d σd, Rel K m h H ∧ DenS K m H σd σ ∧ Den K m H d v ∧ ∃ σd', f d σd = some σd' ∧ ∀ σ', DenS K m H σd' σ' → Off is σ σ' → Q σ' H
def tDGs (K : PySem.W.Frag) (is : List Nat) : TGs := fun vs σ H Q => ∃ m h ds σd, Rel K m h H ∧ DenS K m H σd σ ∧ DenL K m H ds vs ∧ ∃ σd', setN σd is ds = some σd' ∧ ∀ σ', DenS K m H σd' σ' → Off is σ σ' → Q σ' H
theorem PG.weak {X : Cx} {e : Expr} {t t' : TG} (h : PG X e t) (f : ∀ v σ H Q, t' v σ H Q → t v σ H Q) : PG X e t' := ⟨fun pins s σ H v u Q I r q => h.run pins s σ H v u Q I r (f v σ H Q q)⟩
theorem PGs.weak {X : Cx} {e : List Expr} {t t' : TGs} (h : PGs X e t) (f : ∀ v σ H Q, t' v σ H Q → t v σ H Q) : PGs X e t' := ⟨fun pins s σ H v u Q I r q => h.run pins s σ H v u Q I r (f v σ H Q q)⟩
theorem sg_nm {i : Nat} (h : PG X tg (gName i)) : PG X tg (tDG X.K [i] (evTg (.nm i))) :=
  PG.weak h fun v σ H Q ⟨m, h, d, σd, R, S, q, σd', e, k⟩ => by
    cases e
    exact k _ (S.set i q) Off.set
theorem sgs_nil : PGs X [] (tDGs X.K []) :=
  PGs.weak pgs_nil fun vs σ H Q ⟨m, h, ds, σd, R, S, q, σd', e, k⟩ => by
    cases ds with
    | nil => cases e; exact ⟨q, k _ S ⟨rfl, fun _ _ => rfl⟩⟩
    | cons d r => cases e
theorem sgs_cons {i : Nat} {is : List Nat} {t : Expr} {ts : List Expr} (h1 : PG X t (gName i)) (h2 : PGs X ts (tDGs X.K is)) (hs : (assignEach (t :: ts) X.env).map (·.2) = assign t X.env :: (assignEach ts X.env).map (·.2)) :
    PGs X (t :: ts) (tDGs X.K (i :: is)) :=
  PGs.weak (pgs_cons h1 h2 hs) fun vs σ H Q ⟨m, h, ds, σd, R, S, q, σd', e, k⟩ => by
    cases ds with
    | nil => cases e
    | cons d r =>
      obtain ⟨v, vr, rfl, q1, q2⟩ := q
      refine ⟨v, vr, rfl, m, h, r, _, R, S.set i q1, q2, σd', e, fun σ' S' o => k σ' S' ?_⟩
      exact ⟨o.1.trans List.length_set, fun j hj => (o.2 j fun z => hj (List.mem_cons_of_mem _ z)).trans (List.getElem?_set_ne fun z => hj (by rw [← z]; exact List.mem_cons_self))⟩
theorem setN_len : ∀ {is : List Nat} {ds : List D} {σ σ' : Sg}, setN σ is ds = some σ' → ds.length = is.length
  | [], [], _, _, _ => rfl
  | [], _ :: _, _, _, e => by cases e
  | _ :: _, [], _, _, e => by cases e
  | _ :: is, _ :: ds, _, _, e => by
    rw [List.length_cons, List.length_cons, setN_len (is := is) (ds := ds) e]
theorem sg_tp {is : List Nat} {ts : List Expr} {kk : Nat} (hc : X.calm = true) (h : PGs X ts (tDGs X.K is)) (hn : (assignEach ts X.env).length = is.length) (hst : (assignEach ts X.env).findIdx? (·.1) = none) :
    PG X (.Tuple ts kk pos) (tDG X.K is (evTg (.tp is))) :=
  PG.weak (pg_tup hc h hn hst) fun v σ H Q ⟨m, h, d, σd, R, S, q, σd', e, k⟩ => by
    cases d with
    | tup l =>
      obtain ⟨a, vs, rfl, k1, k2⟩ := q
      exact ⟨a, vs, rfl, k1.t, by rw [← k2.len, setN_len e], m, h, l, σd, R, S, k2, σd', e, k⟩
    | _ => cases e

/-! ### comprehensions -/
theorem Step.hid {m0 m : List Addr} {H0 H : Hp} {a : Addr} {o : HO} (s : Step m0 H0 m H) (h0 : H0 a = none) : Step m0 H0 m (upd H a o) :=
  ⟨s.pre, fun b u e n => let ⟨e1, n1⟩ := s.keep b u e n; ⟨by rw [upd_ne (ne_of_none e h0)]; exact e1, n1⟩⟩
theorem Rel.hid {K : PySem.W.Frag} {m : List Addr} {h : Hd} {H : Hp} {a : Addr} {xs ys : List V} (R : Rel K m h H) (ha : a ∉ m) (e : H a = some (.lst xs)) : Rel K m h (upd H a (.lst ys)) ∧ Ext m H m (upd H a (.lst ys)) := by
  have x : Ext m H m (upd H a (.lst ys)) := ⟨List.prefix_refl m, fun p zs z => by
    rw [upd_ne (ne_of z e (by intro q; cases q))]; exact z, fun p o u z => by
    rw [upd_ne (ne_of z e (by intro q; cases q))]; exact z⟩
  exact ⟨⟨R.len, R.nd, fun n ob en => by
    obtain ⟨b, e1, q⟩ := R.ob n ob en
    exact ⟨b, e1, q.mono x (upd_ne fun z => ha (z ▸ List.mem_of_getElem? e1))⟩⟩, x⟩
theorem Rel.adopt {K : PySem.W.Frag} {m : List Addr} {h : Hd} {H : Hp} {a : Addr} {xs : List V} {ds : List D} (R : Rel K m h H) (ha : a ∉ m) (e : H a = some (.lst xs)) (q : DenL K m H ds xs) : Rel K (m ++ [a]) (h ++ [.lst ds]) H := by
  have x : Ext m H (m ++ [a]) H := ⟨List.prefix_append m [a], fun _ _ z => z, fun _ _ _ z => z⟩
  refine ⟨by simp [R.len], ?_, fun n o' en => ?_⟩
  · rw [List.nodup_append]
    refine ⟨R.nd, by simp, fun b hb c hc => ?_⟩
    rintro rfl
    rw [List.mem_singleton] at hc
    exact ha (hc ▸ hb)
  · by_cases hn : n < h.length
    · rw [List.getElem?_append_left hn] at en
      obtain ⟨b, e1, q1⟩ := R.ob n o' en
      exact ⟨b, pre_get (List.prefix_append _ _) e1, q1.mono x rfl⟩
    · have hl : n = h.length := by
        have := (List.getElem?_eq_some_iff.mp en).1
        rw [List.length_append, List.length_singleton] at this
        omega
      subst hl
      rw [List.getElem?_append_right (Nat.le_refl _), Nat.sub_self] at en
      cases en
      refine ⟨a, ?_, xs, e, q.mono x⟩
      rw [← R.len, List.getElem?_append_right (Nat.le_refl _), Nat.sub_self]
      rfl
theorem Step.adopt {m0 m : List Addr} {H0 H : Hp} {a : Addr} (s : Step m0 H0 m H) (h0 : H0 a = none) : Step m0 H0 (m ++ [a]) H :=
  ⟨s.pre.trans (List.prefix_append m [a]), fun b u e n => let ⟨e1, n1⟩ := s.keep b u e n; ⟨e1, fun z => by
    rcases List.mem_append.mp z with z | z
    · exact n1 z
    · rw [List.mem_singleton] at z
      subst z
      rw [h0] at e
      cases e⟩⟩

abbrev W0 : WX := fun _ _ _ _ => False
theorem lc_read {own : List Nat} {tgd : Tg} {ci : Sg → Hd → Res (List D × Option Nat)} {cc : Sg → Hd → Res Bool} {ce : Sg → Hd → Res D} (hown : ∀ i ∈ tgd.sl, i ∈ own) (hst : ∀ σ h p h1, ci σ h = .ok p h1 → stays p.2 p.1 h1)
    {K : PySem.W.Frag} {m : List Addr} {hd : Hd} {H : Hp} {σd : Sg} {σ : St} {Q : VK} (R : Rel K m hd H) (S : DenS K m H σd σ)
    (p : Post K ecl m H ((ci σd hd).bind fun p h1 => match lcItems p.1 p.2 (fun d => evTg tgd d (wipeD σd own)) cc ce p.1 h1 with
      | .ok r h2 => if r.length ≤ lim then .ok (.ref h2.length) (h2 ++ [.lst r]) else .bad
      | _ => .bad) Q (WE W σ)) :
    tLc (tDI K ecl W ci) (tDG K tgd.sl (evTg tgd)) (tDT K ecl W0 cc) (tD K ecl W0 ce) own σ H Q := by
  refine ⟨m, σd, hd, R, S, (PostG.bind p).imp fun J H1 ⟨pr, h1, m1, s1, R1, wk, e1, p1⟩ => ?_⟩
  have S1 := S.mono (Step.ext R s1)
  intro Dl nD
  obtain ⟨items, src⟩ := pr
  cases er : lcItems items src (fun d => evTg tgd d (wipeD σd own)) cc ce items h1 with
  | exc e h2 => rw [er] at p1; exact (show False from p1).elim
  | bad => rw [er] at p1; exact (show False from p1).elim
  | ok rA hE =>
  rw [er] at p1
  dsimp only at p1
  by_cases hlim : rA.length ≤ lim
  · rw [if_pos hlim] at p1
    refine ⟨fun i n H2 => n = items.length - i ∧ i ≤ items.length ∧ ∃ m2 h2 acc accD r, Step m1 H1 m2 H2 ∧ Rel K m2 h2 H2 ∧ Dl ∉ m2 ∧ H2 Dl = some (.lst acc) ∧ DenL K m2 H2 accD acc ∧ stays src items h2 ∧
      lcItems items src (fun d => evTg tgd d (wipeD σd own)) cc ce (items.drop i) h2 = .ok r hE ∧ rA = accD ++ r, ⟨items.length, by simp, Nat.zero_le _, ?_⟩, ?_⟩
    · refine ⟨m1, h1, [], [], rA, (Step.refl m1 H1).hid nD, Rel.side R1 nD, R1.newO nD, upd_same, DenL.nil, hst _ _ _ _ e1, by rw [List.drop_zero]; exact er, rfl⟩
    · rintro i n H2 ⟨rfl, hi, m2, h2, acc, accD, r, s2, R2, nDm, eD, qA, st, el, eA⟩
      have W2 := wk i m2 h2 H2 s2 R2 st
      by_cases hlt : i < items.length
      · obtain ⟨gJ, yJ⟩ := W2.1 items[i] (List.getElem?_eq_getElem hlt)
        rw [List.drop_eq_getElem_cons hlt] at el
        unfold lcItems at el
        refine .inr ⟨gJ, fun H3 => i + 1 ≤ items.length ∧ ∃ m2 h2 acc accD r, Step m1 H1 m2 H3 ∧ Rel K m2 h2 H3 ∧ Dl ∉ m2 ∧ H3 Dl = some (.lst acc) ∧ DenL K m2 H3 accD acc ∧ stays src items h2 ∧
          lcItems items src (fun d => evTg tgd d (wipeD σd own)) cc ce (items.drop (i + 1)) h2 = .ok r hE ∧ rA = accD ++ r, fun H3 hN => ⟨items.length - (i + 1), by omega, rfl, hN⟩, fun x H3 hy => ?_⟩
        obtain ⟨s3, R3, q3⟩ := yJ x H3 hy
        obtain ⟨eD3, nD3⟩ := s3.keep Dl _ eD nDm
        have x3 := Step.ext R2 s3
        have x13 := Step.ext R1 (s2.trans s3)
        cases et : evTg tgd items[i] (wipeD σd own) with
        | none => rw [et] at el; cases el
        | some σt =>
        rw [et] at el
        dsimp only at el
        refine ⟨m2, h2, items[i], wipeD σd own, R3, (S1.mono x13).wipe own, q3, σt, et, fun σ' S' off => ⟨wipe_off off hown, ?_⟩⟩
        refine ⟨m2, σt, h2, R3, S', ?_⟩
        cases ec : cc σt h2 with
        | exc e h' => rw [ec] at el; cases el
        | bad => rw [ec] at el; cases el
        | ok b h4 =>
        rw [ec] at el
        intro m4 H4 b' s4 R4 eb
        subst eb
        obtain ⟨eD4, nD4⟩ := s4.keep Dl _ eD3 nD3
        have x4 := Step.ext R3 s4
        cases b with
        | false =>
          rw [if_neg Bool.false_ne_true]
          dsimp only at el
          split at el
          · rename_i st4
            exact ⟨hlt, m4, h4, acc, accD, r, (s2.trans s3).trans s4, R4, nD4, eD4, (qA.mono x3).mono x4, st4, el, eA⟩
          · cases el
        | true =>
          rw [if_pos rfl]
          dsimp only at el
          refine ⟨m4, σt, h4, R4, S'.mono x4, ?_⟩
          cases ee : ce σt h4 with
          | exc e h' => rw [ee] at el; cases el
          | bad => rw [ee] at el; cases el
          | ok y h5 =>
          rw [ee] at el
          dsimp only at el
          split at el
          · rename_i st5
            split at el
            · rename_i r5 h6 el5
              cases el
              intro m5 H5 v s5 R5 q5
              obtain ⟨eD5, nD5⟩ := s5.keep Dl _ eD4 nD4
              have x5 := Step.ext R4 s5
              have qA5 := ((qA.mono x3).mono x4).mono x5
              obtain ⟨R6, x6⟩ := R5.hid nD5 eD5 (ys := acc ++ [v])
              refine ⟨acc, eD5, ?_, hlt, m5, h5, acc ++ [v], accD ++ [y], r5, (((s2.trans s3).trans s4).trans s5).hid nD, R6, nD5, upd_same, (qA5.app (DenL.cons q5 DenL.nil)).mono x6, st5, el5, by rw [eA, List.append_assoc]; rfl⟩
              rw [← qA.len]
              apply lim_lt
              rw [eA, List.length_append, List.length_cons] at hlim
              omega
            · cases el
          · cases el
      · have ei : i = items.length := by omega
        subst ei
        refine .inl ⟨W2.2 (Nat.le_refl _), ?_⟩
        rw [List.drop_length] at el
        cases el
        rw [List.append_nil] at eA
        subst eA
        refine p1 (m2 ++ [Dl]) H2 _ (s2.adopt nD) (R2.adopt nDm eD qA) ⟨Dl, rfl, ?_⟩
        rw [← R2.len, List.getElem?_append_right (Nat.le_refl _), Nat.sub_self]
        rfl
  · rw [if_neg hlim] at p1
    exact (show False from p1).elim

/-- a dict display -/
theorem mergeK_nd : ∀ (more acc : List (Key × V)), (acc.map (·.1) ++ more.map (·.1)).Nodup → mergeK acc more = acc ++ more
  | [], acc, _ => (List.append_nil acc).symm
  | (k, v) :: r, acc, hn => by
    have hk : (acc.any fun kv => decide (kv.1 = k)) = false := by
      rw [List.any_eq_false]
      intro kv hkv
      have h1 := (List.nodup_append.mp hn).2.2 kv.1 (List.mem_map_of_mem hkv) k (by simp)
      simpa using h1
    show mergeK (putK acc k v) r = _
    have e : putK acc k v = acc ++ [(k, v)] := by
      unfold putK
      rw [hk, if_neg Bool.false_ne_true]
    rw [e, mergeK_nd r (acc ++ [(k, v)]) (by simpa using hn), List.append_assoc]
    rfl
def tDP (K : PySem.W.Frag) (ecl : Nat → Value) (W : WX) (ks : List Key) (cr : Sg → Hd → Res (List D)) : St → Hp → (List (V × V) → Hp → Prop) → Prop := fun σ H Q =>
  ∃ m σd hd, Rel K m hd H ∧ DenS K m H σd σ ∧ PostA K ecl m H (cr σd hd) (fun vs H' => Q ((ks.map kV).zip vs) H') (WE W σ)
def SDP (X : Cx) (ecl : Nat → Value) (W : WX) (pos : Pos) (keys : List (Option Expr)) (vals : List Expr) (ks : List Key) (cr : Sg → Hd → Res (List D)) : Prop :=
  ∃ trs, PPs X pos keys vals trs ∧ ∀ σ H Q, tDP X.K ecl W ks cr σ H Q → tPairs trs σ H Q
theorem sdp_nil : SDP X ecl W pos [] [] [] (fun _ h => .ok [] h) := ⟨[], pps_nil, fun σ H Q ⟨m, σd, hd, R, S, p⟩ => p m H [] (Step.refl _ _) R DenL.nil⟩
theorem sdp_cons {k : Key} {ke ve : Expr} {keys : List (Option Expr)} {vals : List Expr} {ks : List Key} {cr : Sg → Hd → Res (List D)} (hk : PE X ke (tC (kV k))) (hv : SE X ecl W ve ca) (hr : SDP X ecl W pos keys vals ks cr) :
    SDP X ecl W pos (some ke :: keys) (ve :: vals) (k :: ks) (fun σ h => (ca σ h).bind fun x h1 => (cr σ h1).bind fun xs h2 => .ok (x :: xs) h2) := by
  obtain ⟨trs, h1, h2⟩ := hr
  refine ⟨_, pps_cons hk hv h1, fun σ H Q ⟨m, σd, hd, R, S, p⟩ => ?_⟩
  obtain ⟨m0, s0, h0, r0, S0, p0⟩ := bindE R S p
  refine ⟨m0, s0, h0, r0, S0, p0.imp fun x H1 ⟨d, h1, m1, s1, R1, S1, q, _, p1⟩ => h2 _ _ _ ?_⟩
  obtain ⟨m0, s0, h0, r0, S0, p0⟩ := bindA R1 S1 p1
  exact ⟨m0, s0, h0, r0, S0, p0.imp fun xs H2 ⟨ds, h2, m2, s2, R2, S2, q2, _, p2⟩ => p2 m2 H2 _ (Step.refl _ _) R2 (DenL.cons (q.mono (Step.ext R1 s2)) q2)⟩
theorem zip_kv : ∀ (ks : List Key) (vs : List V), ks.length = vs.length → (ks.map kV).zip vs = (ks.zip vs).map (fun kv => (kV kv.1, kv.2))
  | [], [], _ => rfl
  | k :: ks, v :: vs, h => by
    show (kV k, v) :: (ks.map kV).zip vs = _
    rw [zip_kv ks vs (by simpa using h)]
    rfl
theorem map1_zip {α β : Type} : ∀ (ks : List α) (vs : List β), ks.length = vs.length → (ks.zip vs).map (·.1) = ks
  | [], [], _ => rfl
  | k :: ks, v :: vs, h => by
    show k :: (ks.zip vs).map (·.1) = _
    rw [map1_zip ks vs (by simpa using h)]
theorem map2_zip {α β : Type} : ∀ (ks : List α) (vs : List β), ks.length = vs.length → (ks.zip vs).map (·.2) = vs
  | [], [], _ => rfl
  | k :: ks, v :: vs, h => by
    show v :: (ks.zip vs).map (·.2) = _
    rw [map2_zip ks vs (by simpa using h)]
theorem se_dic {keys : List (Option Expr)} {vals : List Expr} {ks : List Key} {cr : Sg → Hd → Res (List D)} (hall : keys.all (·.isSome) = true) (hl : keys.length = vals.length) (h0 : keys ≠ []) (h15 : keys.length ≤ 15) (hs : SDP X ecl W pos keys vals ks cr) :
    SE X ecl W (.Dict keys vals pos) (fun σ h => (cr σ h).bind fun ds h1 => if ks.length = ds.length ∧ ks.Nodup ∧ ks.length ≤ 15 then .ok (.ref h1.length) (h1 ++ [.dic (ks.zip ds)]) else .bad) := by
  obtain ⟨trs, g1, g2⟩ := hs
  refine PE.weak (pe_disp g1 hall hl h0 h15) fun σ H Q ⟨m, σd, hd, R, S, p⟩ => ?_
  intro a na
  have sa : Step m H m (upd H a (.dK [])) := Step.side R na
  have Ra : Rel X.K m hd (upd H a (.dK [])) := Rel.side R na
  refine g2 _ _ _ ⟨m, σd, hd, Ra, S.mono (Step.ext R sa), ?_⟩
  cases e : cr σd hd with
  | bad => simp only [e] at p; exact (show False from p).elim
  | exc x h' => simp only [e] at p; exact fun m' H' s R' => p m' H' (sa.trans s) R'
  | ok ds h1 =>
    simp only [e, Res.bind] at p
    intro m' H' vs s R' q
    split at p
    · rename_i hc
      obtain ⟨c1, c2, c3⟩ := hc
      obtain ⟨ea, nm⟩ := s.keep a _ upd_same (R.newO na)
      have cl : ks.length = vs.length := by rw [c1, q.len]
      refine ⟨ea, ks.zip vs, zip_kv ks vs cl, by rw [List.length_zip]; omega, ?_⟩
      have em : mergeK [] (ks.zip vs) = ks.zip vs := by
        rw [mergeK_nd _ _ (by rw [map1_zip ks vs cl]; exact c2)]
        rfl
      rw [em]
      have x : Ext m' H' (m' ++ [a]) (upd H' a (.dK (ks.zip vs))) := ⟨List.prefix_append m' [a], fun p zs z => by
        rw [upd_ne (ne_of z ea (by intro q; cases q))]; exact z, fun p o u z => by
        rw [upd_ne (ne_of z ea (by intro q; cases q))]; exact z⟩
      refine p (m' ++ [a]) _ (.ref a) (((sa.trans s).hid na).adopt na) ?_ ⟨a, rfl, ?_⟩
      · refine ⟨by simp [R'.len], ?_, fun n o' en => ?_⟩
        · rw [List.nodup_append]
          refine ⟨R'.nd, by simp, fun b hb c hc => ?_⟩
          rintro rfl
          rw [List.mem_singleton] at hc
          exact nm (hc ▸ hb)
        · by_cases hn : n < h1.length
          · rw [List.getElem?_append_left hn] at en
            obtain ⟨b, e1, q1⟩ := R'.ob n o' en
            exact ⟨b, pre_get (List.prefix_append _ _) e1, q1.mono x (upd_ne fun z => nm (z ▸ List.mem_of_getElem? e1))⟩
          · have hl : n = h1.length := by
              have := (List.getElem?_eq_some_iff.mp en).1
              rw [List.length_append, List.length_singleton] at this
              omega
            subst hl
            rw [List.getElem?_append_right (Nat.le_refl _), Nat.sub_self] at en
            cases en
            refine ⟨a, ?_, ks.zip vs, upd_same, ?_, ?_⟩
            · rw [← R'.len, List.getElem?_append_right (Nat.le_refl _), Nat.sub_self]
              rfl
            · rw [map1_zip ks vs cl, map1_zip ks ds c1]
            · rw [map2_zip ks vs cl, map2_zip ks ds c1]
              exact q.mono x
      · rw [← R'.len, List.getElem?_append_right (Nat.le_refl _), Nat.sub_self]
        rfl
    · exact (show False from p).elim
end
end Eg
set_option maxHeartbeats 4000000
/-! Part 7: statements. -/
namespace Eg
open PySem PySem.Spec PyProof.Rows L2

section
variable (K : PySem.W.Frag) (ecl : Nat → Value) (W : WX)
def PostS (m : List Addr) (H : Hp) (r : SR) (Dn : Ends) : Prop :=
  match r with
  | .nx σd' h' => ∀ m' H' σ', Step m H m' H' → Rel K m' h' H' → DenS K m' H' σd' σ' → Dn.nx σ' H'
  | .ret d h' => ∀ m' H' v, Step m H m' H' → Rel K m' h' H' → Den K m' H' d v → Dn.rt v H'
  | .brk σd' h' => ∀ m' H' σ', Step m H m' H' → Rel K m' h' H' → DenS K m' H' σd' σ' → Dn.bk σ' H'
  | .cnt σd' h' => ∀ m' H' σ', Step m H m' H' → Rel K m' h' H' → DenS K m' H' σd' σ' → Dn.ct σ' H'
  | .exc e σd' h' => ∀ m' H' σ', Step m H m' H' → Rel K m' h' H' → DenS K m' H' σd' σ' → W (ecl e) none σ' H'
  | .bad => False
def tS (c : Sg → Hd → SR) : TS := fun Dn σ H => ∃ m σd hd, Rel K m hd H ∧ DenS K m H σd σ ∧ PostS K ecl W m H (c σd hd) Dn
end
theorem PS.weak {X : Cx} {st : Stmt} {t t' : TS} (h : PS X st t) (f : ∀ D σ H, t' D σ H → t D σ H) : PS X st t' := ⟨fun pins s σ H D I q => h.run pins s σ H D I (f D σ H q)⟩
theorem PSs.weak {X : Cx} {st : List Stmt} {t t' : TS} (h : PSs X st t) (f : ∀ D σ H, t' D σ H → t D σ H) : PSs X st t' := ⟨fun pins s σ H D I q => h.run pins s σ H D I (f D σ H q)⟩
section
variable {K : PySem.W.Frag} {ecl : Nat → Value} {W : WX} {m m2 : List Addr} {H H2 : Hp} {r : SR} {D : Ends}
theorem PostS.step (s : Step m H m2 H2) (p : PostS K ecl W m H r D) : PostS K ecl W m2 H2 r D := by
  cases r with
  | nx σ h => exact fun m' H' σ' s' => p m' H' σ' (s.trans s')
  | ret d h => exact fun m' H' σ' s' => p m' H' σ' (s.trans s')
  | brk σ h => exact fun m' H' σ' s' => p m' H' σ' (s.trans s')
  | cnt σ h => exact fun m' H' σ' s' => p m' H' σ' (s.trans s')
  | exc e σ h => exact fun m' H' σ' s' => p m' H' σ' (s.trans s')
  | bad => exact p
/-- an expression, then what a statement does with it -/
theorem stE {hd : Hd} {σd : Sg} {σ : St} {c : Sg → Hd → Res Eg.D} {f : Eg.D → Hd → SR} (R : Rel K m hd H) (S : DenS K m H σd σ) (p : PostS K ecl W m H ((c σd hd).st σd f) D) :
    tD K ecl W c σ H (fun v H1 => ∃ d h1 m1, Step m H m1 H1 ∧ Rel K m1 h1 H1 ∧ DenS K m1 H1 σd σ ∧ Den K m1 H1 d v ∧ c σd hd = .ok d h1 ∧ PostS K ecl W m1 H1 (f d h1) D) := by
  refine ⟨m, σd, hd, R, S, ?_⟩
  cases e : c σd hd with
  | ok d h1 => rw [e] at p; exact fun m' H' v s R' q => ⟨d, h1, m', s, R', S.mono (Step.ext R s), q, rfl, PostS.step s p⟩
  | exc x h1 => rw [e] at p; exact fun m' H' s R' => p m' H' σ s R' (S.mono (Step.ext R s))
  | bad => rw [e] at p; exact (show False from p).elim
theorem stT {hd : Hd} {σd : Sg} {σ : St} {c : Sg → Hd → Res Bool} {f : Bool → Hd → SR} (R : Rel K m hd H) (S : DenS K m H σd σ) (p : PostS K ecl W m H ((c σd hd).st σd f) D) :
    tDT K ecl W c σ H (fun v H1 => ∃ h1 m1, Step m H m1 H1 ∧ Rel K m1 h1 H1 ∧ DenS K m1 H1 σd σ ∧ c σd hd = .ok v h1 ∧ PostS K ecl W m1 H1 (f v h1) D) := by
  refine ⟨m, σd, hd, R, S, ?_⟩
  cases e : c σd hd with
  | ok d h1 =>
    rw [e] at p
    intro m' H' v s R' q
    subst q
    exact ⟨h1, m', s, R', S.mono (Step.ext R s), rfl, PostS.step s p⟩
  | exc x h1 => rw [e] at p; exact fun m' H' s R' => p m' H' σ s R' (S.mono (Step.ext R s))
  | bad => rw [e] at p; exact (show False from p).elim
theorem stA {hd : Hd} {σd : Sg} {σ : St} {c : Sg → Hd → Res (List Eg.D)} {f : List Eg.D → Hd → SR} (R : Rel K m hd H) (S : DenS K m H σd σ) (p : PostS K ecl W m H ((c σd hd).st σd f) D) :
    tDA K ecl W c σ H (fun v H1 => ∃ d h1 m1, Step m H m1 H1 ∧ Rel K m1 h1 H1 ∧ DenS K m1 H1 σd σ ∧ DenL K m1 H1 d v ∧ c σd hd = .ok d h1 ∧ PostS K ecl W m1 H1 (f d h1) D) := by
  refine ⟨m, σd, hd, R, S, ?_⟩
  cases e : c σd hd with
  | ok d h1 => rw [e] at p; exact fun m' H' v s R' q => ⟨d, h1, m', s, R', S.mono (Step.ext R s), q, rfl, PostS.step s p⟩
  | exc x h1 => rw [e] at p; exact fun m' H' s R' => p m' H' σ s R' (S.mono (Step.ext R s))
  | bad => rw [e] at p; exact (show False from p).elim
theorem stI {hd : Hd} {σd : Sg} {σ : St} {c : Sg → Hd → Res (List Eg.D × Option Nat)} {f : List Eg.D × Option Nat → Hd → SR} (R : Rel K m hd H) (S : DenS K m H σd σ) (p : PostS K ecl W m H ((c σd hd).st σd f) D) :
    tDI K ecl W c σ H (fun J H1 => ∃ d h1 m1, Step m H m1 H1 ∧ Rel K m1 h1 H1 ∧ DenS K m1 H1 σd σ ∧ Walks K m1 H1 J d.1 d.2 ∧ c σd hd = .ok d h1 ∧ PostS K ecl W m1 H1 (f d h1) D) := by
  refine ⟨m, σd, hd, R, S, ?_⟩
  cases e : c σd hd with
  | ok d h1 => rw [e] at p; exact fun m' H' v s R' q => ⟨d, h1, m', s, R', S.mono (Step.ext R s), q, rfl, PostS.step s p⟩
  | exc x h1 => rw [e] at p; exact fun m' H' s R' => p m' H' σ s R' (S.mono (Step.ext R s))
  | bad => rw [e] at p; exact (show False from p).elim
end

section
variable {X : Cx} {ecl : Nat → Value} {W : WX} {e o i tg : Expr} {ce co ci : Sg → Hd → Res D} {pos : Pos}
abbrev SS (X : Cx) (ecl : Nat → Value) (W : WX) (st : Stmt) (c : Sg → Hd → SR) : Prop := PS X st (tS X.K ecl W c)
abbrev SB (X : Cx) (ecl : Nat → Value) (W : WX) (st : List Stmt) (c : Sg → Hd → SR) : Prop := PSs X st (tS X.K ecl W c)

theorem asg_read {K : PySem.W.Frag} {te : TE} {k : Nat} {D : Ends} {σ : St} {H : Hp} (h : tS K ecl W (fun σ h => (ce σ h).st σ fun x h1 => .nx (σ.set k (some x)) h1) D σ H) (he : ∀ σ H Q, tD K ecl W ce σ H Q → te σ H Q) : tAsg te (gName k) D σ H := by
  obtain ⟨m, σd, hd, R, S, p⟩ := h
  refine he _ _ _ ?_
  obtain ⟨m0, s0, h0, r0, S0, p0⟩ := stE R S p
  exact ⟨m0, s0, h0, r0, S0, p0.imp fun x H1 ⟨d, h1, m1, s1, R1, S1, q, e0, p1⟩ => p1 m1 H1 _ (Step.refl _ _) R1 (S1.set k q)⟩
theorem ss_asg {k : Nat} {x : Str} {pos' : Pos} (hN : X.N.Nodup) (hi : X.N[k]? = some x) (hx : Loc X.env.scope x) (he : SE X ecl W e ce) (hs : swapsWith e (some (.Name x pos')) pos.line X.env = pure false) (hf : X.fn x = true ∨ X.env.scope.names.lookup x = some .local) :
    SS X ecl W (.Assign [.Name x pos'] e pos) (fun σ h => (ce σ h).st σ fun x h1 => .nx (σ.set k (some x)) h1) :=
  PS.weak (ps_set hN hi hx he hs hf) fun D σ H h => asg_read h fun _ _ _ q => q
theorem ss_unp {is : List Nat} {ts : List Expr} {kk : Nat} {tp : Pos} (he : SE X ecl W e ce) (hg : PG X (.Tuple ts kk tp) (tDG X.K is (evTg (.tp is)))) (hs : swapsWithSole [.Tuple ts kk tp] e pos.line X.env = pure false) (hw : swappedStores [.Tuple ts kk tp] e X.env = pure none)
    (h1 : (assignEach [.Tuple ts kk tp] X.env).map (·.2) = [assign (.Tuple ts kk tp) X.env]) :
    SS X ecl W (.Assign [.Tuple ts kk tp] e pos) (fun σ h => (ce σ h).st σ fun x h1 => match x with
      | .tup l => (match setN σ is l with
        | some σ1 => .nx σ1 h1
        | none => .bad)
      | _ => .bad) :=
  PS.weak (ps_asg he hg hs hw h1) fun D σ H ⟨m, σd, hd, R, S, p⟩ => by
    obtain ⟨m0, s0, h0, r0, S0, p0⟩ := stE R S p
    refine ⟨m0, s0, h0, r0, S0, p0.imp fun x H1 ⟨d, h1, m1, s1, R1, S1, q, e0, p1⟩ => ?_⟩
    split at p1
    · rename_i l
      split at p1
      · rename_i σ1 e1
        exact ⟨m1, h1, .tup l, σd, R1, S1, q, σ1, e1, fun σ' S' _ => p1 m1 H1 σ' (Step.refl _ _) R1 S'⟩
      · exact p1.elim
    · exact p1.elim
theorem ss_ex (he : SE X ecl W e ce) (hs : swapsWith e none pos.line X.env = pure false) : SS X ecl W (.Expr e pos) (fun σ h => (ce σ h).st σ fun _ h1 => .nx σ h1) :=
  PS.weak (ps_expr he hs) fun D σ H ⟨m, σd, hd, R, S, p⟩ => by
    obtain ⟨m0, s0, h0, r0, S0, p0⟩ := stE R S p
    exact ⟨m0, s0, h0, r0, S0, p0.imp fun x H1 ⟨d, h1, m1, s1, R1, S1, q, e0, p1⟩ => p1 m1 H1 _ (Step.refl _ _) R1 S1⟩
theorem ss_ret (he : SE X ecl W e ce) : SS X ecl W (.Return (some e) pos) (fun σ h => (ce σ h).st σ fun x h1 => .ret x h1) :=
  PS.weak (ps_ret he) fun D σ H ⟨m, σd, hd, R, S, p⟩ => by
    obtain ⟨m0, s0, h0, r0, S0, p0⟩ := stE R S p
    exact ⟨m0, s0, h0, r0, S0, p0.imp fun x H1 ⟨d, h1, m1, s1, R1, S1, q, e0, p1⟩ => p1 m1 H1 _ (Step.refl _ _) R1 q⟩
theorem ss_retN : SS X ecl W (.Return none pos) (fun _ h => .ret .non h) :=
  PS.weak ps_retN fun D σ H ⟨m, σd, hd, R, S, p⟩ => p m H .non (Step.refl _ _) R rfl
theorem ss_pas : SS X ecl W (.Pass pos) (fun σ h => .nx σ h) := PS.weak ps_pass fun D σ H ⟨m, σd, hd, R, S, p⟩ => p m H σ (Step.refl _ _) R S
theorem ss_brk : SS X ecl W (.Break pos) (fun σ h => .brk σ h) := PS.weak ps_break fun D σ H ⟨m, σd, hd, R, S, p⟩ => p m H σ (Step.refl _ _) R S
theorem ss_cnt : SS X ecl W (.Continue pos) (fun σ h => .cnt σ h) := PS.weak ps_continue fun D σ H ⟨m, σd, hd, R, S, p⟩ => p m H σ (Step.refl _ _) R S
theorem ss_ife {c : Expr} {a b : List Stmt} {tc : Sg → Hd → Res Bool} {ca cb : Sg → Hd → SR} (hc : ST X ecl W c tc) (ha : SB X ecl W a ca) (hb : SB X ecl W b cb) :
    SS X ecl W (.If c a b pos) (fun σ h => (tc σ h).st σ fun k h1 => if k = true then ca σ h1 else cb σ h1) :=
  PS.weak (ps_if hc ha hb) fun D σ H ⟨m, σd, hd, R, S, p⟩ => by
    obtain ⟨m0, s0, h0, r0, S0, p0⟩ := stT R S p
    refine ⟨m0, s0, h0, r0, S0, p0.imp fun k H1 ⟨h1, m1, s1, R1, S1, e, p1⟩ => ?_⟩
    cases k with
    | true => rw [if_pos rfl] at p1 ⊢; exact ⟨m1, σd, h1, R1, S1, p1⟩
    | false => rw [if_neg Bool.false_ne_true] at p1 ⊢; exact ⟨m1, σd, h1, R1, S1, p1⟩
theorem sb_nil : SB X ecl W [] (fun σ h => .nx σ h) := PSs.weak pss_nil fun D σ H ⟨m, σd, hd, R, S, p⟩ => p m H σ (Step.refl _ _) R S
theorem sb_cons {st : Stmt} {rest : List Stmt} {c cr : Sg → Hd → SR} (h : SS X ecl W st c) (hr : SB X ecl W rest cr) :
    SB X ecl W (st :: rest) (fun σ h => match c σ h with | .nx σ1 h1 => cr σ1 h1 | x => x) :=
  PSs.weak (pss_cons h hr) fun D σ H ⟨m, σd, hd, R, S, p⟩ => by
    refine ⟨m, σd, hd, R, S, ?_⟩
    dsimp only at p
    cases e : c σd hd with
    | nx σ1 h1 => rw [e] at p; exact fun m' H' σ' s R' S' => ⟨m', σ1, h1, R', S', PostS.step s p⟩
    | ret d h => rw [e] at p; exact p
    | brk σ1 h => rw [e] at p; exact p
    | cnt σ1 h => rw [e] at p; exact p
    | exc x σ1 h => rw [e] at p; exact p
    | bad => rw [e] at p; exact p
/-- xs[i] = e, xs a list -/
theorem ss_set {tpos : Pos} (he : SE X ecl W e ce) (ho : SE X ecl W o co) (hi : SE X ecl W i ci) (hg : ∀ to ti, PE X o to → PE X i ti → PG X (.Subscript o i tpos) (gSub to ti rSetL)) (hs : swapsWithSole [.Subscript o i tpos] e pos.line X.env = pure false) (hw : swappedStores [.Subscript o i tpos] e X.env = pure none)
    (h1 : (assignEach [.Subscript o i tpos] X.env).map (·.2) = [assign (.Subscript o i tpos) X.env]) :
    SS X ecl W (.Assign [.Subscript o i tpos] e pos) (fun σ h => (ce σ h).st σ fun x h1 => (co σ h1).st σ fun p h2 => (ci σ h2).st σ fun j h3 => match p, j with
      | .ref k, .int j => (match h3[k]? with
        | some (.lst l) => (match L2.ixN l.length j with
          | some n => .nx σ (h3.set k (.lst (l.set n x)))
          | none => .bad)
        | _ => .bad)
      | _, _ => .bad) :=
  PS.weak (ps_asg he (hg _ _ ho hi) hs hw h1) fun D σ H ⟨m, σd, hd, R, S, p⟩ => by
    obtain ⟨m0, s0, h0, r0, S0, p0⟩ := stE R S p
    refine ⟨m0, s0, h0, r0, S0, p0.imp fun x H1 ⟨d, h1, m1, s1, R1, S1, q, e0, p1⟩ => ?_⟩
    obtain ⟨m0, s0, h0, r0, S0, p0⟩ := stE R1 S1 p1
    refine ⟨m0, s0, h0, r0, S0, p0.imp fun y H2 ⟨d2, h2, m2, s2, R2, S2, q2, e02, p2⟩ => ?_⟩
    obtain ⟨m0, s0, h0, r0, S0, p0⟩ := stE R2 S2 p2
    refine ⟨m0, s0, h0, r0, S0, p0.imp fun z H3 ⟨d3, h3, m3, s3, R3, S3, q3, e03, p3⟩ => ?_⟩
    split at p3
    · cases (show z = _ from q3)
      obtain ⟨a, rfl, ea⟩ := q2.mono (Step.ext R2 s3)
      split at p3
      · rename_i l el
        split at p3
        · rename_i n en
          obtain ⟨vs, k1, k2⟩ := R3.lst el ea
          have qx := (q.mono (Step.ext R1 s2)).mono (Step.ext R2 s3)
          have st : Step m3 H3 m3 (upd H3 a (.lst (vs.set n x))) := Step.put (List.mem_of_getElem? ea)
          have xx := Step.ext R3 st
          exact ⟨a, vs, _, n, rfl, rfl, k1, by rw [← k2.len]; exact en, p3 m3 _ σ st (Rel.put R3 ea ⟨_, upd_same, (k2.set n qx).mono xx⟩) (S3.mono xx)⟩
        · exact p3.elim
      · exact p3.elim
    · exact p3.elim
/-- x += e (whole numbers) -/
theorem ss_aug {k : Nat} {x : Str} {op : Operator} {pos' : Pos} (hN : X.N.Nodup) (hi : X.N[k]? = some x) (hx : Loc X.env.scope x) (he : SE X ecl W e ce) (hf : X.fn x = true ∨ X.env.scope.names.lookup x = some .local) : (op = .Add ∨ op = .Sub) →
    SS X ecl W (.AugAssign (.Name x pos') op e pos) (fun σ h => match σ[k]? with
      | some (some (.int a)) => (ce σ h).st σ fun x h1 => (match op, x with
        | .Add, .int b => .nx (σ.set k (some (.int (a + b)))) h1
        | .Sub, .int b => .nx (σ.set k (some (.int (a - b)))) h1
        | _, _ => .bad)
      | _ => .bad) := by
  intro hop
  rcases hop with rfl | rfl
  · refine PS.weak (ps_aug hN hi hx he ip_add hf) fun D σ H ⟨m, σd, hd, R, S, p⟩ => ?_
    dsimp only at p
    split at p
    · rename_i a ea
      obtain ⟨v, e1, q1⟩ := S.at_ k _ ea
      cases (show v = _ from q1)
      obtain ⟨m0, s0, h0, r0, S0, p0⟩ := stE R S p
      refine ⟨_, e1, m0, s0, h0, r0, S0, p0.imp fun y H1 ⟨d, h1, m1, s1, R1, S1, q, e0, p1⟩ => ?_⟩
      cases d with
      | int b =>
        cases (show y = _ from q)
        exact ⟨a, b, rfl, rfl, p1 m1 H1 _ (Step.refl _ _) R1 (S1.set k (show Den X.K m1 H1 (.int (a + b)) (.int (a + b)) from rfl))⟩
      | _ => exact (show False from p1).elim
    · exact p.elim
  · refine PS.weak (ps_aug hN hi hx he ip_sub hf) fun D σ H ⟨m, σd, hd, R, S, p⟩ => ?_
    dsimp only at p
    split at p
    · rename_i a ea
      obtain ⟨v, e1, q1⟩ := S.at_ k _ ea
      cases (show v = _ from q1)
      obtain ⟨m0, s0, h0, r0, S0, p0⟩ := stE R S p
      refine ⟨_, e1, m0, s0, h0, r0, S0, p0.imp fun y H1 ⟨d, h1, m1, s1, R1, S1, q, e0, p1⟩ => ?_⟩
      cases d with
      | int b =>
        cases (show y = _ from q)
        exact ⟨a, b, rfl, rfl, p1 m1 H1 _ (Step.refl _ _) R1 (S1.set k (show Den X.K m1 H1 (.int (a - b)) (.int (a - b)) from rfl))⟩
      | _ => exact (show False from p1).elim
    · exact p.elim
/-! ### loops -/
theorem ss_whl {c : Expr} {b : List Stmt} {tc : Sg → Hd → Res Bool} {cb : Sg → Hd → SR} (wf : Nat) (hp : PassesOwn (model X.prog X.w) X.A X.env X.xe) (hc : ST X ecl W c tc) (hb : SB X ecl W b cb) :
    SS X ecl W (.While c b [] pos) (fun σ h => whileF tc cb wf σ h) :=
  PS.weak (ps_while hp hc hb) fun D σ H ⟨m, σd, hd, R, S, p⟩ => by
    refine ⟨fun n σ' H' => ∃ m' σd' h', Step m H m' H' ∧ Rel X.K m' h' H' ∧ DenS X.K m' H' σd' σ' ∧ PostS X.K ecl W m' H' (whileF tc cb n σd' h') D, ⟨wf, m, σd, hd, Step.refl _ _, R, S, p⟩, fun n σ' H' ⟨m', σd', h', s', R', S', p'⟩ => ?_⟩
    cases n with
    | zero => exact p'.elim
    | succ n =>
      unfold whileF at p'
      refine ⟨m', σd', h', R', S', ?_⟩
      cases et : tc σd' h' with
      | bad => rw [et] at p'; exact p'
      | exc e h1 => rw [et] at p'; exact fun m2 H2 s2 R2 => p' m2 H2 σ' s2 R2 (S'.mono (Step.ext R' s2))
      | ok k h1 =>
        rw [et] at p'
        intro m2 H2 k' s2 R2 ek
        subst ek
        have S2 := S'.mono (Step.ext R' s2)
        cases k with
        | false => rw [if_neg Bool.false_ne_true]; exact p' m2 H2 σ' s2 R2 S2
        | true =>
          rw [if_pos rfl]
          refine ⟨fun σ3 H3 => ∃ m3 σd3 h3, Step m H m3 H3 ∧ Rel X.K m3 h3 H3 ∧ DenS X.K m3 H3 σd3 σ3 ∧ PostS X.K ecl W m3 H3 (whileF tc cb n σd3 h3) D, fun σ3 H3 q3 => ⟨n, Nat.lt_succ_self n, q3⟩, m2, σd', h1, R2, S2, ?_⟩
          dsimp only at p'
          cases eb : cb σd' h1 with
          | nx σ3 h3 => rw [eb] at p'; exact fun m3 H3 σv s3 R3 S3 => ⟨m3, σ3, h3, (s'.trans s2).trans s3, R3, S3, PostS.step (s2.trans s3) p'⟩
          | cnt σ3 h3 => rw [eb] at p'; exact fun m3 H3 σv s3 R3 S3 => ⟨m3, σ3, h3, (s'.trans s2).trans s3, R3, S3, PostS.step (s2.trans s3) p'⟩
          | brk σ3 h3 => rw [eb] at p'; exact fun m3 H3 σv s3 R3 S3 => p' m3 H3 σv (s2.trans s3) R3 S3
          | ret d h3 => rw [eb] at p'; exact fun m3 H3 v s3 R3 q3 => p' m3 H3 v (s2.trans s3) R3 q3
          | exc e σ3 h3 => rw [eb] at p'; exact fun m3 H3 σv s3 R3 S3 => p' m3 H3 σv (s2.trans s3) R3 S3
          | bad => rw [eb] at p'; exact p'
theorem ss_for {b : List Stmt} {tgd : Tg} {is : List Nat} {iter : Expr} {cit : Sg → Hd → Res (List D × Option Nat)} {cb : Sg → Hd → SR} (hp : PassesOwn (model X.prog X.w) X.A X.env X.xe) (hc : X.calm = true) (hst : ∀ σ h p h1, cit σ h = .ok p h1 → stays p.2 p.1 h1)
    (hi : SI X ecl W tg iter cit) (hg : PG X tg (tDG X.K is (evTg tgd))) (hb : SB X ecl W b cb) (hs : ∀ x, foldedSetIterable iter X.env x = pure x) :
    SS X ecl W (.For tg iter b [] pos) (fun σ h => (cit σ h).st σ fun p h1 => forItems p.1 p.2 (fun d σ' => evTg tgd d σ') cb p.1 σ h1) :=
  PS.weak (ps_for hp hc hi hg hb hs) fun D σ H ⟨m, σd, hd, R, S, p⟩ => by
    obtain ⟨m0, s0, h0, r0, S0, p0⟩ := stI R S p
    refine ⟨m0, s0, h0, r0, S0, p0.imp fun J H1 ⟨pr, h1, m1, s1, R1, S1, wk, e1, p1⟩ => ?_⟩
    obtain ⟨items, src⟩ := pr
    refine ⟨fun i n σ2 H2 => n = items.length - i ∧ i ≤ items.length ∧ ∃ m2 σd2 h2, Step m1 H1 m2 H2 ∧ Rel X.K m2 h2 H2 ∧ DenS X.K m2 H2 σd2 σ2 ∧ stays src items h2 ∧ PostS X.K ecl W m2 H2 (forItems items src (fun d σ' => evTg tgd d σ') cb (items.drop i) σd2 h2) D,
      ⟨items.length, by simp, Nat.zero_le _, m1, σd, h1, Step.refl _ _, R1, S1, hst _ _ _ _ e1, by rw [List.drop_zero]; exact p1⟩, ?_⟩
    rintro i n σ2 H2 ⟨rfl, hi', m2, σd2, h2, s2, R2, S2, st, p2⟩
    have W2 := wk i m2 h2 H2 s2 R2 st
    by_cases hlt : i < items.length
    · obtain ⟨gJ, yJ⟩ := W2.1 items[i] (List.getElem?_eq_getElem hlt)
      rw [List.drop_eq_getElem_cons hlt] at p2
      unfold forItems at p2
      refine .inr ⟨gJ, fun σ3 H3 => i + 1 ≤ items.length ∧ ∃ m2 σd2 h2, Step m1 H1 m2 H3 ∧ Rel X.K m2 h2 H3 ∧ DenS X.K m2 H3 σd2 σ3 ∧ stays src items h2 ∧ PostS X.K ecl W m2 H3 (forItems items src (fun d σ' => evTg tgd d σ') cb (items.drop (i + 1)) σd2 h2) D,
        fun σ3 H3 hN => ⟨items.length - (i + 1), by omega, rfl, hN⟩, fun x H3 hy => ?_⟩
      obtain ⟨s3, R3, q3⟩ := yJ x H3 hy
      have x3 := Step.ext R2 s3
      cases et : evTg tgd items[i] σd2 with
      | none => rw [et] at p2; exact (show False from p2).elim
      | some σt =>
      rw [et] at p2
      dsimp only at p2
      refine ⟨m2, h2, items[i], σd2, R3, S2.mono x3, q3, σt, et, fun σ4 S4 _ => ⟨m2, σt, h2, R3, S4, ?_⟩⟩
      cases eb : cb σt h2 with
      | bad => rw [eb] at p2; exact (show False from p2).elim
      | ret d h5 => rw [eb] at p2; exact fun m5 H5 v s5 R5 q5 => p2 m5 H5 v (s3.trans s5) R5 q5
      | brk σ5 h5 => rw [eb] at p2; exact fun m5 H5 σv s5 R5 S5 => p2 m5 H5 σv (s3.trans s5) R5 S5
      | exc e σ5 h5 => rw [eb] at p2; exact fun m5 H5 σv s5 R5 S5 => p2 m5 H5 σv (s3.trans s5) R5 S5
      | nx σ5 h5 =>
        rw [eb] at p2
        dsimp only at p2
        split at p2
        · rename_i st5
          exact fun m5 H5 σv s5 R5 S5 => ⟨hlt, m5, σ5, h5, (s2.trans s3).trans s5, R5, S5, st5, PostS.step (s3.trans s5) p2⟩
        · exact p2.elim
      | cnt σ5 h5 =>
        rw [eb] at p2
        dsimp only at p2
        split at p2
        · rename_i st5
          exact fun m5 H5 σv s5 R5 S5 => ⟨hlt, m5, σ5, h5, (s2.trans s3).trans s5, R5, S5, st5, PostS.step (s3.trans s5) p2⟩
        · exact p2.elim
    · have ei : i = items.length := by omega
      subst ei
      rw [List.drop_length] at p2
      exact .inl ⟨W2.2 (Nat.le_refl _), p2 m2 H2 σ2 (Step.refl _ _) R2 S2⟩
end
end Eg
set_option maxHeartbeats 4000000
/-! Part 8: the small syntax of a text, and that it is right. -/
namespace Eg
open PySem PySem.Spec PyProof.Rows L2

structure Cc where
  N : List Str
  sc : Scope
  fns : List Str
  glb : List (Str × D)
  blt : List Str

def okn (x : Str) : Bool := !(x == ("__debug__" : Str)) && !(x == ("__classdict__" : Str))
def Cc.vis (c : Cc) (x : Str) : Bool := match c.sc.names.lookup x with
  | some .local => true
  | some .cell => true
  | some .free => true
  | _ => false
def Cc.loc (c : Cc) (x : Str) : Bool := match c.sc.names.lookup x with
  | some .local => true
  | some .cell => true
  | _ => false
def Cc.glo (c : Cc) (x : Str) : Bool := match c.sc.names.lookup x with
  | some .globalImplicit => okn x
  | _ => false
def Cc.slot (c : Cc) (x : Str) : Option Nat := if c.N[c.N.idxOf x]? = some x then some (c.N.idxOf x) else none
def Cc.fidx (c : Cc) (x : Str) : Option Nat := if c.fns[c.fns.idxOf x]? = some x then some (c.fns.idxOf x) else none
/-- a built-in that no name of the module hides -/
def Cc.bi (c : Cc) (x : Str) : Bool := c.glo x && decide (x ∈ c.blt) && !(x == ("__name__" : Str))

def biOf (x : Str) : Option Bi :=
  if x = "len" then some .len else if x = "int" then some .int else if x = "abs" then some .abs else if x = "str" then some .str else if x = "min" then some .min else if x = "max" then some .max
  else if x = "sum" then some .sum else if x = "list" then some .list else if x = "tuple" then some .tuple else if x = "all" then some .all else if x = "any" then some .any else none
def tyOf (x : Str) : Option Ty :=
  if x = "str" then some .str else if x = "int" then some .int else if x = "bool" then some .bool else if x = "tuple" then some .tuple else if x = "list" then some .list else if x = "dict" then some .dict else none
def meOf (x : Str) : Option Me :=
  if x = "append" then some .append else if x = "extend" then some .extend else if x = "pop" then some .pop else if x = "split" then some .split else if x = "partition" then some .partition else if x = "join" then some .join else if x = "count" then some .count else if x = "startswith" then some .startswith else if x = "upper" then some .upper else none

def noStar : Expr → Bool
  | .Starred _ _ => false
  | _ => true
def noComp : Expr → Bool
  | .ListComp _ _ _ _ => false
  | .SetComp _ _ _ _ => false
  | .DictComp _ _ _ _ _ => false
  | _ => true
def noSet : Expr → Bool
  | .Set _ _ _ => false
  | _ => true
def noSl : Expr → Bool
  | .Slice _ _ _ _ => false
  | _ => true
def noTup : Expr → Bool
  | .Tuple _ _ _ => false
  | _ => true
/-- no call without arguments of a name (super) -/
def noC0 : Expr → Bool
  | .Call (.Name _ _) [] [] _ => false
  | _ => true

def Cc.names (c : Cc) : List Expr → Option (List Nat)
  | [] => some []
  | .Name x _ :: r => if c.loc x = true then (match c.slot x, c.names r with
    | some i, some is => some (i :: is)
    | _, _ => none) else none
  | _ => none
def Cc.tg (c : Cc) : Expr → Option Tg
  | .Name x _ => if c.loc x = true then (c.slot x).map .nm else none
  | .Tuple es _ _ => (c.names es).map .tp
  | _ => none
def Cc.own (c : Cc) : List (Str × NameKind) → List (Str × Nat)
  | [] => []
  | (x, k) :: r => (match k with
    | .local => (match c.slot x with | some i => [(x, i)] | none => [])
    | .cell => (match c.slot x with | some i => [(x, i)] | none => [])
    | _ => []) ++ c.own r
def cmpL (f : Expr → Option T) : List Expr → Option TL
  | [] => some .nil
  | e :: r => if noStar e = true then (match f e, cmpL f r with
    | some t, some ts => some (.cons t ts)
    | _, _ => none) else none
def cmpO (f : Expr → Option T) : Option Expr → Option TO
  | none => some .no
  | some e => (f e).map .yes
def keysOf : List (Option Expr) → Option (List Key)
  | [] => some []
  | some (.Constant (.str s) _ _) :: r => (keysOf r).map (Sum.inr s :: ·)
  | some (.Constant (.int i) _ _) :: r => (keysOf r).map (Sum.inl i :: ·)
  | _ => none
def cmpIt (c : Cc) (f : Expr → Option T) (e : Expr) : Option It :=
  match e with
  | .Call (.Name x _) [a] [] _ => if x = "range" ∧ c.bi x = true ∧ noStar a = true then (f a).map .rng1 else if noSet e = true then (f e).map .of else none
  | .Call (.Name x _) [a, b] [] _ => if x = "range" ∧ c.bi x = true ∧ noStar a = true ∧ noStar b = true then (match f a, f b with
      | some ta, some tb => some (.rng2 ta tb)
      | _, _ => none) else if noSet e = true then (f e).map .of else none
  | _ => if noSet e = true then (f e).map .of else none

def cmpC (c : Cc) (x : Str) (as : Option TL) : Option T := if c.glo x = true then (match c.fidx x with
    | some i => as.map (.call i)
    | none => if c.bi x = true then (match biOf x with
      | some b => as.map (.bi b)
      | none => none) else none) else none
def cmpLc (f : Cc → Expr → Option T) (c : Cc) (elt tg iter : Expr) (ifs : List Expr) (sc : Scope) : Option T :=
    if blkC c.N c.sc sc (c.own sc.names) = true then (match cmpIt c (f c) iter, ({ c with sc := sc } : Cc).tg tg, (match ifs with
        | [] => some TO.no
        | [t] => (f { c with sc := sc } t).map .yes
        | _ => none), f { c with sc := sc } elt with
      | some it, some tgd, some tc, some te => if (tgd.sl.all fun i => decide (i ∈ (c.own sc.names).map (·.2))) = true then some (.lc te tgd ((c.own sc.names).map (·.2)) it tc) else none
      | _, _, _, _ => none) else none

/-- list(reversed(x)) -/
def revArg (x : Str) : Expr → List Expr → Option Expr
  | .Call (.Name y _) [e] [] _, [] => if x = "list" ∧ y = "reversed" then some e else none
  | _, _ => none
def cmpE : Nat → Cc → Expr → Option T
  | 0, _, _ => none
  | n + 1, c, e =>
    match e with
    | .Constant (.int i) _ _ => some (.cst (.int i))
    | .Constant (.str s) _ _ => some (.cst (.str s))
    | .Constant (.bool b) _ _ => some (.cst (.bl b))
    | .Constant .none _ _ => some (.cst .non)
    | .Name x _ => if c.vis x = true ∧ okn x = true then (c.slot x).map .var else if c.glo x = true then (c.glb.lookup x).map .cst else none
    | .BinOp a op b _ => (match cmpE n c a, cmpE n c b with
      | some ta, some tb => some (.bin op ta tb)
      | _, _ => none)
    | .UnaryOp .USub a _ => (cmpE n c a).map .neg
    | .UnaryOp .Not a _ => (cmpE n c a).map .not
    | .Compare a [op] [b] _ => if behindInMarks op b = false then (match cmpE n c a, cmpE n c b with
      | some ta, some tb => some (.cmp op ta tb)
      | _, _ => none) else none
    | .Compare a [o1, o2] [b, d] _ => if lastMarks [o1, o2] [b, d] = false then (match cmpE n c a, cmpE n c b, cmpE n c d with
      | some ta, some tb, some td => some (.chn o1 o2 ta tb td)
      | _, _, _ => none) else none
    | .BoolOp _ [a] _ => cmpE n c a
    | .BoolOp .And (a :: b :: r) p => (match cmpE n c a, cmpE n c (.BoolOp .And (b :: r) p) with
      | some ta, some tb => some (.and ta tb)
      | _, _ => none)
    | .BoolOp .Or (a :: b :: r) p => (match cmpE n c a, cmpE n c (.BoolOp .Or (b :: r) p) with
      | some ta, some tb => some (.or ta tb)
      | _, _ => none)
    | .IfExp t a b _ => (match cmpE n c t, cmpE n c a, cmpE n c b with
      | some tt, some ta, some tb => some (.ite tt ta tb)
      | _, _, _ => none)
    | .Tuple es _ _ => (cmpL (cmpE n c) es).map .tup
    | .List es _ => (cmpL (cmpE n c) es).map .lst
    | .Dict keys vals _ => if keys.all (·.isSome) = true ∧ keys.length = vals.length ∧ keys ≠ [] ∧ keys.length ≤ 15 then (match keysOf keys, cmpL (cmpE n c) vals with
      | some ks, some ts => some (.dic ks ts)
      | _, _ => none) else none
    | .Subscript a (.Slice lo hi none _) _ => (match cmpE n c a, cmpO (cmpE n c) lo, cmpO (cmpE n c) hi with
      | some ta, some tl, some th => some (.sl ta tl th)
      | _, _, _ => none)
    | .Subscript a b _ => if noSl b = true then (match cmpE n c a, cmpE n c b with
      | some ta, some tb => some (.ix ta tb)
      | _, _ => none) else none
    | .Call (.Name x _) [a, .Name y q] [] _ => if x = "isinstance" ∧ c.bi x = true ∧ c.bi y = true ∧ (tyOf y).isSome = true ∧ noStar a = true then (match tyOf y, cmpE n c a with
        | some t, some ta => some (.isi ta t)
        | _, _ => none)
      else cmpC c x (cmpL (cmpE n c) [a, .Name y q])
    | .Call (.Name x _) (a :: r) [] _ => (match revArg x a r with
      | some e => if c.bi "list" = true ∧ c.bi "reversed" = true ∧ noStar e = true then (cmpE n c e).map fun t => .bi .rev (.cons t .nil) else none
      | none => cmpC c x (cmpL (cmpE n c) (a :: r)))
    | .Call (.Attribute o m ap) args [] p => if noC0 o = true ∧ (ap.endLine == p.line) = true ∧ args.length < 30 then (match meOf m, cmpE n c o, cmpL (cmpE n c) args with
      | some me, some to, some ts => some (.me me to ts)
      | _, _, _ => none) else none
    | .ListComp elt [⟨tg, iter, ifs, 0⟩] sc _ => cmpLc (fun c' e' => cmpE n c' e') c elt tg iter ifs sc
    | _ => none
end Eg
set_option maxHeartbeats 8000000
/-! Part 9: expressions of a text. -/
namespace Eg
open PySem PySem.Spec PyProof.Rows L2

theorem star_of {e : Expr} (h : noStar e = true) (es : List Expr) (env : Env) : starEach (e :: es) env = (false, eval e env) :: starEach es env := by
  cases e <;> first | rfl | (cases h; done)
def NoSt (es : List Expr) : Prop := ∀ e ∈ es, noStar e = true
theorem back_of {pos : Pos} {env : Env} : ∀ {es : List Expr}, NoSt es → (backTo pos (starEach es env)).any (·.1) = false
  | [], _ => rfl
  | e :: es, h => by
    rw [star_of (h e List.mem_cons_self)]
    show (false || (backTo pos (starEach es env)).any (·.1)) = false
    rw [back_of fun x hx => h x (List.mem_cons_of_mem _ hx)]
    rfl
theorem all_of {pos : Pos} {env : Env} : ∀ {es : List Expr}, NoSt es → (backTo pos (starEach es env)).all (fun x => !x.1) = true
  | [], _ => rfl
  | e :: es, h => by
    rw [star_of (h e List.mem_cons_self)]
    show (true && (backTo pos (starEach es env)).all (fun x => !x.1)) = true
    rw [all_of fun x hx => h x (List.mem_cons_of_mem _ hx)]
    rfl
theorem few_of {pos : Pos} {env : Env} {es : List Expr} (h : NoSt es) (hl : es.length < 30) : ((backTo pos (starEach es env)).all (fun x => !x.1) && (backToKw pos (keywordEach [] env)).all (fun x => x.1.isSome)
      && decide (es.length + ([] : List Keyword).length + (if ([] : List Keyword).isEmpty then 0 else 1) < 30)) = true := by
  rw [all_of h]
  have e : es.length + ([] : List Keyword).length + (if ([] : List Keyword).isEmpty then 0 else 1) = es.length := rfl
  rw [e, decide_eq_true hl]
  rfl
theorem cmpL_no {f : Expr → Option T} : ∀ {es : List Expr} {ts : TL}, cmpL f es = some ts → NoSt es
  | [], _, _ => fun _ h => nomatch h
  | e :: r, ts, h => by
    unfold cmpL at h
    split at h
    · rename_i hn
      split at h
      · rename_i e2
        intro x hx
        rcases List.mem_cons.mp hx with rfl | hx
        · exact hn
        · exact cmpL_no e2 x hx
      · cases h
    · cases h

def ScK (k : NameKind) (o : Option NameKind) : Prop := match k with
  | .local => o = some .local
  | .cell => o = some .cell
  | .free => o = some .cell ∨ o = some .free
  | .globalImplicit => o = some .globalImplicit
  | .globalExplicit => True
structure OkX (F : Orc) (ecl : Nat → Value) (c : Cc) (X : Cx) (W : WX) : Prop where
  N : X.N = c.N
  nd : c.N.Nodup
  sc : ∀ x k, c.sc.names.lookup x = some k → ScK k (X.env.scope.names.lookup x)
  cell : ∀ x, c.sc.names.lookup x = some .cell → X.fn x = true
  kind : X.env.scope.kind = .function
  calm : X.calm = true
  tk : Takes X W
  po : PassesOwn (model X.prog X.w) X.A X.env X.xe
  hu : X.A.units + 64 < cLine
  fns : ∀ i f, c.fns[i]? = some f → ∃ a k fd ps, X.mg f = some (.ref a) ∧ PySem.W.keepIn X.K (.ref a) = true ∧ FnOk X.prog X.w X.K X.mg X.base (L2.CX X.prog X.w) k a fd ps (spF X.K ecl F i) ∧ Room k X.A ∧ Binds X.K fd ps []
  glb : ∀ x d, c.glb.lookup x = some d → ∃ u v, X.mg x = some u ∧ RelV v u ∧ ∀ m H, Den X.K m H d v
  blt : ∀ x, x ∈ c.blt → X.mg x = none

section
variable {F : Orc} {ecl : Nat → Value} {c : Cc} {X : Cx} {W : WX}
theorem OkX.vis (O : OkX F ecl c X W) {x : Str} (h : c.vis x = true) : Vis X.env.scope x := by
  unfold Cc.vis at h
  split at h
  · rename_i e; exact .inl (O.sc _ _ e)
  · rename_i e; exact .inr (.inl (O.sc _ _ e))
  · rename_i e; exact .inr (O.sc _ _ e)
  · cases h
theorem OkX.loc (O : OkX F ecl c X W) {x : Str} (h : c.loc x = true) : Loc X.env.scope x ∧ (X.fn x = true ∨ X.env.scope.names.lookup x = some .local) := by
  unfold Cc.loc at h
  split at h
  · rename_i e; exact ⟨.inl (O.sc _ _ e), .inr (O.sc _ _ e)⟩
  · rename_i e; exact ⟨.inr (O.sc _ _ e), .inl (O.cell _ e)⟩
  · cases h
theorem okn_of {x : Str} (h : okn x = true) : (x == ("__debug__" : Str)) = false ∧ (x == ("__classdict__" : Str)) = false := by
  unfold okn at h
  simp only [Bool.and_eq_true, Bool.not_eq_true'] at h
  exact h
theorem OkX.glo (O : OkX F ecl c X W) {x : Str} (h : c.glo x = true) : Gl X x ∧ (x == ("__debug__" : Str)) = false := by
  unfold Cc.glo at h
  split at h
  · rename_i e; exact ⟨O.sc _ _ e, (okn_of h).1⟩
  · cases h
theorem OkX.slot (O : OkX F ecl c X W) {x : Str} {i : Nat} (h : c.slot x = some i) : X.N[i]? = some x := by
  unfold Cc.slot at h
  split at h
  · rename_i e; cases h; rw [O.N]; exact e
  · cases h
theorem OkX.ndX (O : OkX F ecl c X W) : X.N.Nodup := by rw [O.N]; exact O.nd
theorem OkX.bi (O : OkX F ecl c X W) {x : Str} (h : c.bi x = true) : Gl X x ∧ X.mg x = none ∧ x ≠ "__name__" ∧ (x == ("__debug__" : Str)) = false := by
  unfold Cc.bi at h
  simp only [Bool.and_eq_true, decide_eq_true_eq, Bool.not_eq_true'] at h
  obtain ⟨⟨h1, h2⟩, h3⟩ := h
  obtain ⟨g1, g2⟩ := O.glo h1
  exact ⟨g1, O.blt x h2, beq_eq_false_iff_ne.mp h3, g2⟩

/-! ### a comprehension's block -/
theorem lookup_map2 {g : Str → NameKind → NameKind} : ∀ (l : List (Str × NameKind)) (x : Str), (l.map fun y => (y.1, g y.1 y.2)).lookup x = (l.lookup x).map (g x)
  | [], _ => rfl
  | (n, k) :: r, x => by
    show List.lookup x ((n, g n k) :: r.map _) = _
    rw [List.lookup_cons, List.lookup_cons]
    cases h : x == n with
    | true =>
      have e : x = n := beq_iff_eq.mp h
      subst e
      rfl
    | false => exact lookup_map2 r x
theorem relabel_look {scope : Scope} {env : Env} {x : Str} {k : NameKind} (h : scope.names.lookup x = some k) : ScK k ((relabel scope env).names.lookup x) := by
  have e : (relabel scope env).names = scope.names.map fun y => (y.1, if (y.2 == NameKind.free && env.scope.kind == ScopeKind.function && env.kindOf y.1 == some NameKind.cell) = true then NameKind.cell else y.2) := by
    show (scope.names.map fun (n, k) => if (k == NameKind.free && env.scope.kind == ScopeKind.function && env.kindOf n == some NameKind.cell) then (n, NameKind.cell) else (n, k)) = _
    apply List.map_congr_left
    rintro ⟨n, k⟩ _
    dsimp only
    split <;> rfl
  rw [e, lookup_map2 (g := fun n k => if (k == NameKind.free && env.scope.kind == ScopeKind.function && env.kindOf n == some NameKind.cell) = true then NameKind.cell else k), h]
  cases k with
  | free =>
    simp only [Option.map_some]
    split
    · exact Or.inl rfl
    · exact Or.inr rfl
  | globalExplicit => exact trivial
  | _ => exact rfl
theorem OkX.blk (O : OkX F ecl c X W) {scope : Scope} (hk : scope.kind = .function) (s : Shared) (H : Hp) (C : Addr) (cl : List (Str × Addr)) (fp : List Addr) :
    OkX F ecl { c with sc := scope } (X.blk s H scope (compEnvC scope cl C X.env) fp) W0 where
  N := O.N
  nd := O.nd
  sc := fun x k h => relabel_look h
  cell := fun x h => by
    show (scope.names.lookup x == some NameKind.cell) = true
    rw [h]
    rfl
  kind := hk
  calm := O.calm
  tk := fun u s' x => takes0 u s' x
  po := PassesOwn.never
  hu := O.hu
  fns := O.fns
  glb := O.glb
  blt := O.blt
theorem OkX.blkOk (O : OkX F ecl c X W) {scope : Scope} {own : List (Str × Nat)} (h : blkC c.N c.sc scope own = true) : BlkOk X.N X.env.scope scope own := by
  have b := blkOk_by h
  refine ⟨b.kind, b.uniq, by rw [O.N]; exact b.ix, fun y hy e => ?_, by rw [O.N]; exact b.own⟩
  rcases b.free y hy e with z | z
  · exact .inl (O.sc _ _ z)
  · exact O.sc _ _ z

/-! ### targets -/
theorem names_ok (O : OkX F ecl c X W) : ∀ {ts : List Expr} {is : List Nat}, c.names ts = some is → PGs X ts (tDGs X.K is) ∧ (assignEach ts X.env).length = is.length ∧ (assignEach ts X.env).findIdx? (·.1) = none
  | [], is, h => by cases h; exact ⟨sgs_nil, rfl, rfl⟩
  | t :: ts, is, h => by
    cases t with
    | Name x p =>
      simp only [Cc.names] at h
      split at h
      · rename_i hl
        split at h
        · rename_i i is' e1 e2
          cases h
          obtain ⟨g1, g2, g3⟩ := names_ok O e2
          obtain ⟨l1, l2⟩ := O.loc hl
          refine ⟨sgs_cons (pg_name O.ndX (O.slot e1) l1 l2) g1 rfl, ?_, ?_⟩
          · show (assignEach ts X.env).length + 1 = is'.length + 1
            rw [g2]
          · show List.findIdx? (·.1) ((false, assign (.Name x p) X.env) :: assignEach ts X.env) = none
            rw [List.findIdx?_cons, g3]
            rfl
        · cases h
      · cases h
    | _ => cases h
theorem tg_ok (O : OkX F ecl c X W) {t : Expr} {g : Tg} (h : c.tg t = some g) : PG X t (tDG X.K g.sl (evTg g)) := by
  cases t with
  | Name x p =>
    simp only [Cc.tg] at h
    split at h
    · rename_i hl
      cases e : c.slot x with
      | none => rw [e] at h; cases h
      | some i =>
        rw [e] at h
        cases h
        obtain ⟨l1, l2⟩ := O.loc hl
        exact sg_nm (pg_name O.ndX (O.slot e) l1 l2)
    · cases h
  | Tuple es k p =>
    simp only [Cc.tg] at h
    cases e : c.names es with
    | none => rw [e] at h; cases h
    | some is =>
      rw [e] at h
      cases h
      obtain ⟨g1, g2, g3⟩ := names_ok O e
      exact sg_tp O.calm g1 g2 g3
  | _ => cases h

/-! ### what is right of an expression -/
def isBO : Expr → Prop
  | .BoolOp _ _ _ => True
  | _ => False
structure Snd (F : Orc) (ecl : Nat → Value) (X : Cx) (W : WX) (ex : Expr) (tt : T) : Prop where
  e : SE X ecl W ex (evE F tt)
  t : ST X ecl W ex (evT F tt)
  w : isBO ex → PW X ex (tDT X.K ecl W (evT F tt))
theorem st_bad {e : Expr} : ST X ecl W e (fun _ _ => .bad) := ⟨fun pins s σ H Q I ⟨m, σd, hd, R, S, p⟩ => p.elim⟩
theorem PT.congr {e : Expr} {f g : Sg → Hd → Res Bool} (h : ST X ecl W e f) (q : ∀ σ h, g σ h = f σ h) : ST X ecl W e g := by
  have : g = f := funext fun σ => funext fun h => q σ h
  rw [this]; exact h
def SndN (F : Orc) (ecl : Nat → Value) (n : Nat) : Prop := ∀ (c : Cc) (e : Expr) (t : T), cmpE n c e = some t → ∀ (X : Cx) (W : WX), OkX F ecl c X W → Snd F ecl X W e t
theorem cmpL_ok {n : Nat} (ih : SndN F ecl n) (O : OkX F ecl c X W) : ∀ {es : List Expr} {ts : TL}, cmpL (cmpE n c) es = some ts → SA X ecl W es (evA F ts)
  | [], ts, h => by cases h; exact sa_nil
  | e :: r, ts, h => by
    unfold cmpL at h
    split at h
    · rename_i hn
      split at h
      · rename_i t ts' e1 e2
        cases h
        exact sa_cons (star_of hn r X.env) (ih c e t e1 X W O).e (cmpL_ok ih O e2)
      · cases h
    · cases h
theorem cmpO_ok {n : Nat} (ih : SndN F ecl n) (O : OkX F ecl c X W) {e : Option Expr} {t : TO} (h : cmpO (cmpE n c) e = some t) : PO X e (tDO X.K ecl W (evO F t)) := by
  cases e with
  | none => cases h; exact so_no
  | some e =>
    simp only [cmpO] at h
    cases e1 : cmpE n c e with
    | none => rw [e1] at h; cases h
    | some te => rw [e1] at h; cases h; exact so_yes (ih c e te e1 X W O).e
theorem it_stays {it : It} {σ : Sg} {h h1 : Hd} {p : List D × Option Nat} (e : evIt F it σ h = .ok p h1) : stays p.2 p.1 h1 := by
  cases it with
  | of t =>
    simp only [evIt] at e
    cases e1 : evE F t σ h with
    | bad => rw [e1] at e; cases e
    | exc x h' => rw [e1] at e; cases e
    | ok d h' =>
      rw [e1] at e
      simp only [Res.bind] at e
      cases e2 : itemsOf h' d with
      | none => rw [e2] at e; cases e
      | some q =>
        rw [e2] at e
        cases e
        cases d with
        | tup l => cases e2; trivial
        | fl l => cases e2; trivial
        | str s => cases e2; trivial
        | ref k =>
          simp only [itemsOf] at e2
          split at e2
          · rename_i l el; cases e2; exact el
          · cases e2
        | _ => cases e2
  | rng1 a =>
    simp only [evIt] at e
    cases e1 : evE F a σ h with
    | bad => rw [e1] at e; cases e
    | exc x h' => rw [e1] at e; cases e
    | ok d h' =>
      rw [e1] at e
      simp only [Res.bind] at e
      split at e
      · split at e
        · cases e; trivial
        · cases e
      · cases e
  | rng2 a b =>
    simp only [evIt] at e
    cases e1 : evE F a σ h with
    | bad => rw [e1] at e; cases e
    | exc x h' => rw [e1] at e; cases e
    | ok d h' =>
      rw [e1] at e
      simp only [Res.bind] at e
      cases e2 : evE F b σ h' with
      | bad => rw [e2] at e; cases e
      | exc x h' => rw [e2] at e; cases e
      | ok d2 h2 =>
        rw [e2] at e
        simp only at e
        split at e
        · split at e
          · cases e; trivial
          · cases e
        · cases e
theorem fold_of {e : Expr} (h : noSet e = true) (env : Env) (x : Value) : foldedSetIterable e env x = pure x := by
  cases e <;> first | rfl | (cases h; done)
theorem it_fold {f : Expr → Option T} {e : Expr} {it : It} (h : cmpIt c f e = some it) : noSet e = true := by
  cases e <;> first | rfl | skip
  simp only [cmpIt, noSet] at h
  cases h
theorem it_of {n : Nat} (ih : SndN F ecl n) (O : OkX F ecl c X W) {e tg : Expr} {it : It} (h : (if noSet e = true then (cmpE n c e).map It.of else none) = some it) : SI X ecl W tg e (evIt F it) := by
  split at h
  · cases e1 : cmpE n c e with
    | none => rw [e1] at h; cases h
    | some t =>
      rw [e1] at h
      cases h
      have q := si_of (tg := tg) (ih c e t e1 X W O).e
      exact q
  · cases h
theorem it_ok {n : Nat} (ih : SndN F ecl n) (O : OkX F ecl c X W) {e tg : Expr} {it : It} (h : cmpIt c (cmpE n c) e = some it) : SI X ecl W tg e (evIt F it) := by
  unfold cmpIt at h
  split at h
  · rename_i x p a q
    split at h
    · rename_i hc
      obtain ⟨rfl, hb, hn⟩ := hc
      obtain ⟨g1, g2, _, _⟩ := O.bi hb
      cases e1 : cmpE n c a with
      | none => rw [e1] at h; cases h
      | some t => rw [e1] at h; cases h; exact si_rng1 g1 g2 (ih c a t e1 X W O).e (star_of hn [] X.env)
    · exact it_of ih O h
  · rename_i x p a b q
    split at h
    · rename_i hc
      obtain ⟨rfl, hb, hn, hn2⟩ := hc
      obtain ⟨g1, g2, _, _⟩ := O.bi hb
      split at h
      · rename_i ta tb e1 e2
        cases h
        exact si_rng2 g1 g2 (ih c a ta e1 X W O).e (ih c b tb e2 X W O).e (by rw [star_of hn, star_of hn2]; rfl) (star_of hn2 [] X.env)
      · cases h
    · exact it_of ih O h
  · exact it_of ih O h
end
end Eg
set_option maxHeartbeats 8000000
/-! Part 10: every expression. -/
namespace Eg
open PySem PySem.Spec PyProof.Rows L2

section
variable {F : Orc} {ecl : Nat → Value} {c : Cc} {X : Cx} {W : WX}
theorem nost_cons {e : Expr} {es : List Expr} (h : NoSt (e :: es)) : noStar e = true ∧ NoSt es := ⟨h e List.mem_cons_self, fun x hx => h x (List.mem_cons_of_mem _ hx)⟩
theorem bi_ok (O : OkX F ecl c X W) {x : Str} {b : Bi} {p pos : Pos} {e : Expr} {es : List Expr} {cr : Sg → Hd → Res (List D)} (hb : c.bi x = true) (e1 : biOf x = some b) (hs : NoSt (e :: es)) (ha : SA X ecl W (e :: es) cr) :
    SE X ecl W (.Call (.Name x p) (e :: es) [] pos) (fun σ h => (cr σ h).bind fun ds h1 => evBi b ds h1) := by
  obtain ⟨g1, g2, g3, g4⟩ := O.bi hb
  obtain ⟨s1, s2⟩ := nost_cons hs
  have st := star_of s1 es X.env
  have bk : (backTo pos (starEach es X.env)).any (·.1) = false := back_of s2
  unfold biOf at e1
  split at e1; · rename_i ex; subst ex; cases e1; exact se_bi (id := "len") bi_len g1 g2 PySem.boot_len ha g3 g4 st bk
  split at e1; · rename_i ex; subst ex; cases e1; exact se_ty bi_int g1 g2 boot_int ha g3 g4 st bk
  split at e1; · rename_i ex; subst ex; cases e1; exact se_bi (id := "abs") bi_abs g1 g2 (by decide +kernel) ha g3 g4 st bk
  split at e1; · rename_i ex; subst ex; cases e1; exact se_ty bi_str g1 g2 boot_str ha g3 g4 st bk
  split at e1; · rename_i ex; subst ex; cases e1; exact se_bi (id := "min") (bi_min O.calm) g1 g2 (by decide +kernel) ha g3 g4 st bk
  split at e1; · rename_i ex; subst ex; cases e1; exact se_bi (id := "max") (bi_max O.calm) g1 g2 (by decide +kernel) ha g3 g4 st bk
  split at e1; · rename_i ex; subst ex; cases e1; exact se_bi (id := "sum") (bi_sum O.calm) g1 g2 (by decide +kernel) ha g3 g4 st bk
  split at e1; · rename_i ex; subst ex; cases e1; exact se_ty bi_list g1 g2 boot_list ha g3 g4 st bk
  split at e1; · rename_i ex; subst ex; cases e1; exact se_ty bi_tuple g1 g2 boot_tuple ha g3 g4 st bk
  split at e1; · rename_i ex; subst ex; cases e1; exact se_bi (id := "all") (bi_all O.calm) g1 g2 (by decide +kernel) ha g3 g4 st bk
  split at e1; · rename_i ex; subst ex; cases e1; exact se_bi (id := "any") (bi_any O.calm) g1 g2 (by decide +kernel) ha g3 g4 st bk
  cases e1
theorem ty_ok (O : OkX F ecl c X W) {y : Str} {t : Ty} {q : Pos} (hb : c.bi y = true) (e1 : tyOf y = some t) : PE X (.Name y q) (tC (.ty t.v)) := by
  obtain ⟨g1, g2, g3, g4⟩ := O.bi hb
  unfold tyOf at e1
  split at e1; · rename_i ex; subst ex; cases e1; exact pe_bltn g1 g2 boot_str rfl g3 g4
  split at e1; · rename_i ex; subst ex; cases e1; exact pe_bltn g1 g2 boot_int rfl g3 g4
  split at e1; · rename_i ex; subst ex; cases e1; exact pe_bltn g1 g2 (by decide +kernel) rfl g3 g4
  split at e1; · rename_i ex; subst ex; cases e1; exact pe_bltn g1 g2 boot_tuple rfl g3 g4
  split at e1; · rename_i ex; subst ex; cases e1; exact pe_bltn g1 g2 boot_list rfl g3 g4
  split at e1; · rename_i ex; subst ex; cases e1; exact pe_bltn g1 g2 (by decide +kernel) rfl g3 g4
  cases e1
theorem base_of {o : Expr} (h : noC0 o = true) (attr : Str) (env : Env) (w : Sem Value) : attributeBase o attr env w = w := by
  cases o with
  | Call f args kws p =>
    cases f with
    | Name id q =>
      cases args with
      | nil =>
        cases kws with
        | nil => cases h
        | cons k ks => rfl
      | cons a as => rfl
    | _ => rfl
  | _ => rfl
theorem meD_ok (O : OkX F ecl c X W) {mm : Str} {mt : Me} (e1 : meOf mm = some mt) : MeD X ecl mt mm := by
  unfold meOf at e1
  split at e1; · rename_i ex; subst ex; cases e1; exact meD_one (T := "list") (fun _ => rfl) PySem.F.plainAttrs_list PySem.F.slot_list_append PySem.F.type_list_append me_append fun m h H d v R q ok => me_lstT R q ok
  split at e1; · rename_i ex; subst ex; cases e1; exact meD_one (T := "list") (fun _ => rfl) PySem.F.plainAttrs_list PySem.F.slot_list_extend PySem.F.type_list_extend me_extend fun m h H d v R q ok => me_lstT R q ok
  split at e1; · rename_i ex; subst ex; cases e1; exact meD_one (T := "list") (fun _ => rfl) PySem.F.plainAttrs_list PySem.F.slot_list_pop PySem.F.type_list_pop me_pop fun m h H d v R q ok => me_lstT R q ok
  split at e1; · rename_i ex; subst ex; cases e1; exact meD_one (T := "str") (fun _ => rfl) PySem.F.plainAttrs_str PySem.F.slot_str_split PySem.F.type_str_split me_split fun m h H d v R q ok => me_strT (h := h) q ok
  split at e1; · rename_i ex; subst ex; cases e1; exact meD_one (T := "str") (fun _ => rfl) PySem.F.plainAttrs_str PySem.F.slot_str_partition PySem.F.type_str_partition me_partition fun m h H d v R q ok => me_strT (h := h) q ok
  split at e1; · rename_i ex; subst ex; cases e1; exact meD_one (T := "str") (fun _ => rfl) PySem.F.plainAttrs_str PySem.F.slot_str_join PySem.F.type_str_join me_join fun m h H d v R q ok => me_strT (h := h) q ok
  split at e1; · rename_i ex; subst ex; cases e1; exact meD_count (by have := O.hu; omega)
  split at e1; · rename_i ex; subst ex; cases e1; exact meD_one (T := "str") (fun _ => rfl) PySem.F.plainAttrs_str PySem.F.slot_str_startswith PySem.F.type_str_startswith me_startswith fun m h H d v R q ok => me_strT (h := h) q ok
  split at e1; · rename_i ex; subst ex; cases e1; exact meD_one (T := "str") (fun _ => rfl) PySem.F.plainAttrs_str PySem.F.slot_str_upper PySem.F.type_str_upper me_upper fun m h H d v R q ok => me_strT (h := h) q ok
  cases e1
theorem me_ok (O : OkX F ecl c X W) {mm : Str} {mt : Me} {o e : Expr} {es : List Expr} {ap pos : Pos} {co : Sg → Hd → Res D} {cr : Sg → Hd → Res (List D)} (e1 : meOf mm = some mt) (ho : SE X ecl W o co) (ha : SA X ecl W (e :: es) cr) (hn : noC0 o = true)
    (hline : (ap.endLine == pos.line) = true) (hs : NoSt (e :: es)) (hl : (e :: es).length < 30) :
    SE X ecl W (.Call (.Attribute o mm ap) (e :: es) [] pos) (fun σ h => (co σ h).bind fun x h1 => if okMe mt x h1 = true then (cr σ h1).bind fun ds h2 => evMe mt x ds h2 else .bad) := by
  obtain ⟨s1, s2⟩ := nost_cons hs
  have st := star_of s1 es X.env
  have bk : (backTo pos (starEach es X.env)).any (·.1) = false := back_of s2
  have hb := fun attr => base_of hn attr X.env (eval o X.env)
  have fw := few_of (pos := pos) (env := X.env) hs hl
  exact se_me (meD_ok O e1) ho ha (hb _) fw hline st bk
theorem me_ok0 (O : OkX F ecl c X W) {mm : Str} {mt : Me} {o : Expr} {ap pos : Pos} {co : Sg → Hd → Res D} (e1 : meOf mm = some mt) (ho : SE X ecl W o co) (hn : noC0 o = true) (hline : (ap.endLine == pos.line) = true) :
    SE X ecl W (.Call (.Attribute o mm ap) [] [] pos) (fun σ h => (co σ h).bind fun x h1 => if okMe mt x h1 = true then (Res.ok ([] : List D) h1).bind fun ds h2 => evMe mt x ds h2 else .bad) := by
  have hb := fun attr => base_of hn attr X.env (eval o X.env)
  exact se_me0 (meD_ok O e1) ho (hb _) hline
theorem rev_some {x : Str} {a e : Expr} {r : List Expr} (h : revArg x a r = some e) : ∃ q p, x = "list" ∧ a = .Call (.Name "reversed" q) [e] [] p ∧ r = [] := by
  unfold revArg at h
  split at h
  · split at h
    · rename_i hc
      cases h
      obtain ⟨rfl, rfl⟩ := hc
      exact ⟨_, _, rfl, rfl, rfl⟩
    · cases h
  · cases h
theorem call_ok (O : OkX F ecl c X W) {x : Str} {p pos : Pos} {e : Expr} {es : List Expr} {as : TL} {t : T} (hs : NoSt (e :: es)) (ha : SA X ecl W (e :: es) (evA F as)) (h : cmpC c x (some as) = some t) :
    SE X ecl W (.Call (.Name x p) (e :: es) [] pos) (evE F t) ∧ ∀ σ hh, evT F t σ hh = truR (evE F t σ hh) := by
  unfold cmpC at h
  split at h
  · rename_i hg
    obtain ⟨g1, g2⟩ := O.glo hg
    obtain ⟨s1, s2⟩ := nost_cons hs
    split at h
    · rename_i i ei
      cases h
      unfold Cc.fidx at ei
      split at ei
      · rename_i ef
        cases ei
        obtain ⟨a, k, fd, ps, h1, h2, h3, h4, h5⟩ := O.fns _ _ ef
        exact ⟨se_call h3 h4 g1 h1 h2 h5 O.tk ha g2 (star_of s1 es X.env) (back_of s2), fun _ _ => rfl⟩
      · cases ei
    · split at h
      · rename_i hb
        split at h
        · rename_i b eb
          cases h
          exact ⟨bi_ok O hb eb hs ha, fun _ _ => rfl⟩
        · cases h
      · cases h
  · cases h
theorem snd_of {e : Expr} {t : T} (he : SE X ecl W e (evE F t)) (ht : ST X ecl W e (evT F t)) (hb : ¬ isBO e) : Snd F ecl X W e t := ⟨he, ht, fun z => absurd z hb⟩
theorem keys_ok {pos : Pos} {n : Nat} (ih : SndN F ecl n) (O : OkX F ecl c X W) : ∀ {keys : List (Option Expr)} {vals : List Expr} {ks : List Key} {ts : TL}, keys.length = vals.length → keysOf keys = some ks → cmpL (cmpE n c) vals = some ts → SDP X ecl W pos keys vals ks (evA F ts)
  | [], [], ks, ts, _, h1, h2 => by cases h1; cases h2; exact sdp_nil
  | k :: keys, v :: vals, ks, ts, hl, h1, h2 => by
    unfold cmpL at h2
    split at h2
    · split at h2
      · rename_i t ts' e1 e2
        cases h2
        have go : ∀ {kk : Key} {ke : Expr}, k = some ke → PE X ke (tC (kV kk)) → (keysOf keys).map (kk :: ·) = some ks → SDP X ecl W pos (k :: keys) (v :: vals) ks (evA F (.cons t ts')) := fun {kk ke} ek hp hk => by
          subst ek
          cases e3 : keysOf keys with
          | none => rw [e3] at hk; cases hk
          | some ks' =>
            rw [e3] at hk
            cases hk
            exact sdp_cons hp (ih c v t e1 X W O).e (keys_ok ih O (by simpa using hl) e3 e2)
        unfold keysOf at h1
        split at h1
        · rename_i heq; cases heq
        · rename_i s j p r heq
          cases heq
          exact go rfl pe_str h1
        · rename_i s j p r heq
          cases heq
          exact go rfl pe_int h1
        · cases h1
      · cases h2
    · cases h2
  | [], _ :: _, _, _, hl, _, _ => by simp at hl
  | _ :: _, [], _, _, hl, _, _ => by simp at hl

theorem lc_ok {n : Nat} (ih : SndN F ecl n) (O : OkX F ecl c X W) {elt tg iter : Expr} {ifs : List Expr} {sc : Scope} {t : T} (h : cmpLc (fun c' e' => cmpE n c' e') c elt tg iter ifs sc = some t) :
    ∃ wi g tt te, PI X tg iter wi ∧ BlkOk X.N X.env.scope sc (c.own sc.names) ∧
      (∀ (s : Shared) (H : Hp) (C : Addr) (cl : List (Str × Addr)) (fp : List Addr), PG (X.blk s H sc (compEnvC sc cl C X.env) fp) tg g) ∧
      (∀ (s : Shared) (H : Hp) (C : Addr) (cl : List (Str × Addr)) (fp : List Addr), PTs (X.blk s H sc (compEnvC sc cl C X.env) fp) ifs tt) ∧
      (∀ (s : Shared) (H : Hp) (C : Addr) (cl : List (Str × Addr)) (fp : List Addr), PE (X.blk s H sc (compEnvC sc cl C X.env) fp) elt te) ∧
      (∀ σ H Q, tD X.K ecl W (evE F t) σ H Q → tLc wi g tt te ((c.own sc.names).map (·.2)) σ H Q) ∧ noSet iter = true := by
  unfold cmpLc at h
  split at h
  · rename_i hb
    split at h
    · rename_i it tgd tc te e1 e2 e3 e4
      split at h
      · rename_i hown
        cases h
        have bok := O.blkOk hb
        have hown' : ∀ i ∈ tgd.sl, i ∈ (c.own sc.names).map (·.2) := fun i hi => by
          have := List.all_eq_true.mp hown i hi
          exact of_decide_eq_true this
        have OB := fun s H C cl fp => O.blk bok.kind s H C cl fp
        refine ⟨tDI X.K ecl W (evIt F it), tDG X.K tgd.sl (evTg tgd), tDT X.K ecl W0 (evC F tc), tD X.K ecl W0 (evE F te), it_ok ih O e1, bok, fun s H C cl fp => tg_ok (OB s H C cl fp) e2, fun s H C cl fp => ?_, fun s H C cl fp => (ih _ _ _ e4 _ _ (OB s H C cl fp)).e, ?_, it_fold e1⟩
        · have OB' := OB s H C cl fp
          cases ifs with
          | nil =>
            cases e3
            exact ⟨fun pins s σ H Q I ⟨m, σd, hd, R, S, p⟩ => pts_nil.run pins s σ H Q I (p m H true (Step.refl _ _) R rfl)⟩
          | cons a r =>
            cases r with
            | nil =>
              simp only at e3
              cases e5 : cmpE n { c with sc := sc } a with
              | none => rw [e5] at e3; cases e3
              | some ta =>
                rw [e5] at e3
                cases e3
                exact pts_one (ih _ _ _ e5 _ _ OB').t
            | cons b r => cases e3
        · exact fun σ H Q ⟨m, σd, hd, R, S, p⟩ => lc_read (W := W) hown' (fun σ h p h1 e => it_stays e) R S p
      · cases h
    · cases h
  · cases h

theorem sndN : ∀ n, SndN F ecl n
  | 0, c, e, t, h, X, W, O => by cases h
  | n + 1, c, e, t, h, X, W, O => by
    have ih := sndN n
    cases e with
    | Constant v k p =>
      cases v <;> first
        | (cases h; exact snd_of (se_cst pe_int fun _ _ => rfl) (st_tru (se_cst pe_int fun _ _ => rfl) fun _ => rfl) id)
        | (cases h; exact snd_of (se_cst pe_str fun _ _ => rfl) (st_tru (se_cst pe_str fun _ _ => rfl) fun _ => rfl) id)
        | (cases h; exact snd_of (se_cst pe_bl fun _ _ => rfl) (st_tru (se_cst pe_bl fun _ _ => rfl) fun _ => rfl) id)
        | (cases h; exact snd_of (se_cst pe_non fun _ _ => rfl) (st_tru (se_cst pe_non fun _ _ => rfl) fun _ => rfl) id)
        | (cases h; done)
    | Name x p =>
      simp only [cmpE] at h
      split at h
      · rename_i hv
        obtain ⟨hv, ho⟩ := hv
        cases e1 : c.slot x with
        | none => rw [e1] at h; cases h
        | some i =>
          rw [e1] at h
          cases h
          obtain ⟨o1, o2⟩ := okn_of ho
          have q : SE X ecl W (.Name x p) (evE F (.var i)) := se_var (pe_var (O.slot e1) (O.vis hv) o1 o2)
          exact snd_of q (st_tru q fun _ => rfl) id
      · split at h
        · rename_i hg
          obtain ⟨g1, g2⟩ := O.glo hg
          cases e1 : c.glb.lookup x with
          | none => rw [e1] at h; cases h
          | some d =>
            rw [e1] at h
            cases h
            obtain ⟨u, v, h1, h2, h3⟩ := O.glb x d e1
            have q : SE X ecl W (.Name x p) (evE F (.cst d)) := se_cst (pe_glob g1 h1 h2 g2) h3
            exact snd_of q (st_tru q fun _ => rfl) id
        · cases h
    | BinOp a op b p =>
      simp only [cmpE] at h
      split at h
      · rename_i ta tb e1 e2
        cases h
        exact snd_of (se_bin (ih c a ta e1 X W O).e (ih c b tb e2 X W O).e) st_bad id
      · cases h
    | UnaryOp op a p =>
      cases op with
      | USub =>
        simp only [cmpE] at h
        cases e1 : cmpE n c a with
        | none => rw [e1] at h; cases h
        | some ta => rw [e1] at h; cases h; exact snd_of (se_neg (ih c a ta e1 X W O).e) st_bad id
      | Not =>
        simp only [cmpE] at h
        cases e1 : cmpE n c a with
        | none => rw [e1] at h; cases h
        | some ta => rw [e1] at h; cases h; exact snd_of (se_not (ih c a ta e1 X W O).e) (st_not (ih c a ta e1 X W O).t) id
      | _ => cases h
    | Compare a ops cs p =>
      cases ops with
      | nil => cases h
      | cons o1 ops =>
        cases cs with
        | nil => cases ops with
          | nil => cases h
          | cons o2 ops => cases ops <;> cases h
        | cons b cs =>
          cases ops with
          | nil =>
            cases cs with
            | nil =>
              simp only [cmpE] at h
              split at h
              · rename_i hm
                split at h
                · rename_i ta tb e1 e2
                  cases h
                  have q1 := (ih c a ta e1 X W O).e
                  have q2 := (ih c b tb e2 X W O).e
                  exact snd_of (se_cmp O.hu hm q1 q2) (st_cmp O.hu hm q1 q2) id
                · cases h
              · cases h
            | cons d cs => cases h
          | cons o2 ops =>
            cases ops with
            | cons _ _ => cases cs with
              | nil => cases h
              | cons d cs => cases cs <;> cases h
            | nil =>
              cases cs with
              | nil => cases h
              | cons d cs =>
                cases cs with
                | cons _ _ => cases h
                | nil =>
                  simp only [cmpE] at h
                  split at h
                  · rename_i hm
                    split at h
                    · rename_i ta tb td e1 e2 e3
                      cases h
                      have q1 := (ih c a ta e1 X W O).e
                      have q2 := (ih c b tb e2 X W O).e
                      have q3 := (ih c d td e3 X W O).e
                      exact snd_of (se_chn O.hu hm q1 q2 q3) (st_chn O.hu hm q1 q2 q3) id
                    · cases h
                  · cases h
    | BoolOp op vs p =>
      cases vs with
      | nil => cases op <;> cases h
      | cons a vs =>
        cases vs with
        | nil =>
          have h' : cmpE n c a = some t := by cases op <;> exact h
          have q := ih c a t h' X W O
          cases op with
          | And => exact ⟨pe_one q.e, (pw_and1 q.t).pt, fun _ => pw_and1 q.t⟩
          | Or => exact ⟨pe_one q.e, (pw_or1 q.t).pt, fun _ => pw_or1 q.t⟩
        | cons b r =>
          cases op with
          | And =>
            simp only [cmpE] at h
            split at h
            · rename_i ta tb e1 e2
              cases h
              have q1 := ih c a ta e1 X W O
              have q2 := ih c _ tb e2 X W O
              exact ⟨se_and q1.e q2.e, (sw_and q1.t (q2.w trivial)).pt, fun _ => sw_and q1.t (q2.w trivial)⟩
            · cases h
          | Or =>
            simp only [cmpE] at h
            split at h
            · rename_i ta tb e1 e2
              cases h
              have q1 := ih c a ta e1 X W O
              have q2 := ih c _ tb e2 X W O
              exact ⟨se_or q1.e q2.e, (sw_or q1.t (q2.w trivial)).pt, fun _ => sw_or q1.t (q2.w trivial)⟩
            · cases h
    | IfExp d a b p =>
      simp only [cmpE] at h
      split at h
      · rename_i tt ta tb e1 e2 e3
        cases h
        exact snd_of (se_ite (ih c d tt e1 X W O).t (ih c a ta e2 X W O).e (ih c b tb e3 X W O).e) st_bad id
      · cases h
    | Tuple es k p =>
      simp only [cmpE] at h
      cases e1 : cmpL (cmpE n c) es with
      | none => rw [e1] at h; cases h
      | some ts => rw [e1] at h; cases h; exact snd_of (se_tup (cmpL_ok ih O e1)) st_bad id
    | List es p =>
      simp only [cmpE] at h
      cases e1 : cmpL (cmpE n c) es with
      | none => rw [e1] at h; cases h
      | some ts => rw [e1] at h; cases h; exact snd_of (se_lst (cmpL_ok ih O e1)) st_bad id
    | Dict keys vals p =>
      simp only [cmpE] at h
      split at h
      · rename_i hc
        obtain ⟨c1, c2, c3, c4⟩ := hc
        split at h
        · rename_i ks ts e1 e2
          cases h
          exact snd_of (se_dic c1 c2 c3 c4 (keys_ok ih O c2 e1 e2)) st_bad id
        · cases h
      · cases h
    | Subscript a b p =>
      by_cases hsl : noSl b = true
      · have h' : (match cmpE n c a, cmpE n c b with | some ta, some tb => some (T.ix ta tb) | _, _ => none) = some t := by
          cases b <;> first | (cases hsl; done) | exact h
        split at h'
        · rename_i ta tb e1 e2
          cases h'
          exact snd_of (se_ix (by have := O.hu; omega) (fun o i => by cases b <;> first | rfl | (cases hsl; done)) (ih c a ta e1 X W O).e (ih c b tb e2 X W O).e) st_bad id
        · cases h'
      · cases b with
        | Slice lo hi step p2 =>
          cases step with
          | none =>
            simp only [cmpE] at h
            split at h
            · rename_i ta tl th e1 e2 e3
              cases h
              exact snd_of (se_sl (ih c a ta e1 X W O).e (cmpO_ok ih O e2) (cmpO_ok ih O e3)) st_bad id
            · cases h
          | some st =>
            simp only [cmpE] at h
            exact absurd h (by simp [noSl])
        | _ => exact absurd rfl hsl
    | Call f args kws p =>
      cases kws with
      | cons k ks =>
        exact absurd h (by cases f <;> (try cases args) <;> simp [cmpE])
      | nil =>
        cases f with
        | Name x q =>
          cases args with
          | nil => cases h
          | cons a r =>
            have gen : ∀ {t}, cmpC c x (cmpL (cmpE n c) (a :: r)) = some t → Snd F ecl X W (.Call (.Name x q) (a :: r) [] p) t := fun {t} h => by
              cases e1 : cmpL (cmpE n c) (a :: r) with
              | none =>
                rw [e1] at h
                unfold cmpC at h
                split at h
                · split at h
                  · cases h
                  · split at h
                    · split at h <;> cases h
                    · cases h
                · cases h
              | some as =>
                rw [e1] at h
                obtain ⟨q1, q2⟩ := call_ok (p := q) (pos := p) O (cmpL_no e1) (cmpL_ok ih O e1) h
                exact snd_of q1 (PT.congr (st_tru q1 fun _ => rfl) q2) id
            by_cases his : ∃ y q2, r = [.Name y q2]
            · obtain ⟨y, q2, rfl⟩ := his
              simp only [cmpE] at h
              split at h
              · rename_i hc
                obtain ⟨rfl, hb, hy, _, hs⟩ := hc
                split at h
                · rename_i ty ta e1 e2
                  cases h
                  obtain ⟨g1, g2, g3, g4⟩ := O.bi hb
                  have q := isi_calm (pos := p) (p := q) (ty_ok (q := q2) O hy e1) g1 g2 boot_isinstance (ih c a ta e2 X W O).e g3 g4 (star_of hs _ X.env) rfl rfl
                  exact snd_of q (st_tru q fun _ => rfl) id
                · cases h
              · exact gen h
            · have h' : (match revArg x a r with
                  | some e => if c.bi "list" = true ∧ c.bi "reversed" = true ∧ noStar e = true then (cmpE n c e).map fun t => T.bi .rev (.cons t .nil) else none
                  | none => cmpC c x (cmpL (cmpE n c) (a :: r))) = some t := by
                rw [← h]
                cases r with
                | nil => rfl
                | cons b r =>
                  cases b <;> first
                    | rfl
                    | (cases r with
                       | nil => exact absurd ⟨_, _, rfl⟩ his
                       | cons _ _ => rfl)
              split at h'
              · rename_i e er
                obtain ⟨q2, p2, rfl, rfl, rfl⟩ := rev_some er
                split at h'
                · rename_i hc
                  obtain ⟨b1, b2, hs⟩ := hc
                  obtain ⟨g1, g2, _, _⟩ := O.bi b1
                  obtain ⟨g3, g4, _, _⟩ := O.bi b2
                  cases e1 : cmpE n c e with
                  | none => rw [e1] at h'; cases h'
                  | some ta =>
                    rw [e1] at h'
                    cases h'
                    have q := se_rev (pos := p) (p := q) (p2 := q2) (pos2 := p2) O.calm g1 g2 g3 g4 (ih c e ta e1 X W O).e (star_of hs _ X.env) rfl
                    have ee : (fun σ h => (evE F ta σ h).bind fun x h1 => evBi .rev [x] h1) = evE F (.bi .rev (.cons ta .nil)) := by
                      funext σ h
                      simp only [evE, evA]
                      cases evE F ta σ h <;> rfl
                    rw [ee] at q
                    exact snd_of q (PT.congr (st_tru q fun _ => rfl) (fun σ hh => by simp only [evT, evE])) id
                · cases h'
              · exact gen h'
        | Attribute o m ap =>
          simp only [cmpE] at h
          split at h
          · rename_i hc
            obtain ⟨c1, c2, c3⟩ := hc
            split at h
            · rename_i me to ts e1 e2 e3
              cases h
              cases args with
              | nil =>
                cases e3
                exact snd_of (me_ok0 O e1 (ih c o to e2 X W O).e c1 c2) st_bad id
              | cons a r => exact snd_of (me_ok O e1 (ih c o to e2 X W O).e (cmpL_ok ih O e3) c1 c2 (cmpL_no e3) c3) st_bad id
            · cases h
          · cases h
        | _ => cases h
    | ListComp elt gens sc p =>
      cases gens with
      | nil => cases h
      | cons g gens =>
        cases gens with
        | cons _ _ => exact absurd h (by obtain ⟨a, b, d, e⟩ := g; simp [cmpE])
        | nil =>
          obtain ⟨tg, iter, ifs, as⟩ := g
          by_cases ha : as = 0
          · subst ha
            obtain ⟨wi, g, tt, te, h1, h2, h3, h4, h5, h6, h7⟩ := lc_ok ih O (show cmpLc (fun c' e' => cmpE n c' e') c elt tg iter ifs sc = some t from h)
            have q : SE X ecl W (.ListComp elt [⟨tg, iter, ifs, 0⟩] sc p) (evE F t) := PE.weak (pe_lc O.calm O.ndX h1 h2 h3 h4 h5 (fold_of h7 X.env)) h6
            refine snd_of q ?_ id
            have : ∃ a b d e f, t = .lc a b d e f := by
              have h : cmpLc (fun c' e' => cmpE n c' e') c elt tg iter ifs sc = some t := h
              unfold cmpLc at h
              split at h
              · split at h
                · split at h
                  · cases h; exact ⟨_, _, _, _, _, rfl⟩
                  · cases h
                · cases h
              · cases h
            obtain ⟨_, _, _, _, _, rfl⟩ := this
            exact st_bad
          · exact absurd h (by simp [cmpE, ha])
    | _ => cases h
end
end Eg
set_option maxHeartbeats 8000000
/-! Part 11: statements of a text, defs, the program. -/
namespace Eg
open PySem PySem.Spec PyProof.Rows L2

def cmpB (f : Stmt → Option S) : List Stmt → Option SL
  | [] => some .nil
  | st :: r => (match f st, cmpB f r with
    | some s, some sl => some (.cons s sl)
    | _, _ => none)
def cmpS (ne : Nat) : Nat → Cc → Stmt → Option S
  | 0, _, _ => none
  | n + 1, c, st =>
    match st with
    | .Assign [.Name x px] (.ListComp elt gs sc lp) _ => if c.sc.names.lookup x = some .local ∧ (px.line == lp.line) = true ∧ (sc.names.any fun (n, k) => n == x && (k == .local || k == .cell)) = false ∧ gs.length = 1 then
        (match c.slot x, cmpE ne c (.ListComp elt gs sc lp) with
        | some i, some t => some (.asg i t)
        | _, _ => none) else none
    | .Assign [.Name x _] e _ => if noComp e = true ∧ c.loc x = true then (match c.slot x, cmpE ne c e with
        | some i, some t => some (.asg i t)
        | _, _ => none) else none
    | .Assign [.Tuple ts _ _] e _ => if noComp e = true ∧ noTup e = true then (match c.names ts, cmpE ne c e with
        | some is, some t => some (.unp is t)
        | _, _ => none) else none
    | .Assign [.Subscript o i _] e _ => if noComp e = true ∧ noSl i = true then (match cmpE ne c o, cmpE ne c i, cmpE ne c e with
        | some to, some ti, some te => some (.setI to ti te)
        | _, _, _ => none) else none
    | .AugAssign (.Name x _) op e _ => if (op = .Add ∨ op = .Sub) ∧ c.loc x = true then (match c.slot x, cmpE ne c e with
        | some i, some t => some (.aug i op t)
        | _, _ => none) else none
    | .Expr e _ => if noComp e = true then (cmpE ne c e).map .ex else none
    | .Return (some e) _ => (cmpE ne c e).map .ret
    | .Return none _ => some .retN
    | .If t a b _ => (match cmpE ne c t, cmpB (cmpS ne n c) a, cmpB (cmpS ne n c) b with
      | some tt, some sa, some sb => some (.ife tt sa sb)
      | _, _, _ => none)
    | .While t b [] _ => (match cmpE ne c t, cmpB (cmpS ne n c) b with
      | some tt, some sb => some (.whl tt sb)
      | _, _ => none)
    | .For tg it b [] _ => (match c.tg tg, cmpIt c (cmpE ne c) it, cmpB (cmpS ne n c) b with
      | some g, some i, some sb => some (.fr g i sb)
      | _, _, _ => none)
    | .Pass _ => some .pas
    | .Break _ => some .brk
    | .Continue _ => some .cnt
    | _ => none

section
variable {F : Orc} {ecl : Nat → Value} {c : Cc} {X : Cx} {W : WX} {wf ne : Nat}
theorem cmpB_ok {f : Stmt → Option S} (hf : ∀ st s, f st = some s → SS X ecl W st (evS F wf s)) : ∀ {ss : List Stmt} {sl : SL}, cmpB f ss = some sl → SB X ecl W ss (evB F wf sl)
  | [], sl, h => by cases h; exact sb_nil
  | st :: r, sl, h => by
    unfold cmpB at h
    split at h
    · rename_i s sl' e1 e2
      cases h
      have q := sb_cons (hf st s e1) (cmpB_ok hf e2)
      have e : (fun σ h => match evS F wf s σ h with | .nx σ1 h1 => evB F wf sl' σ1 h1 | x => x) = evB F wf (.cons s sl') := by
        funext σ h
        simp only [evB]
        try (cases evS F wf s σ h <;> rfl)
      rw [← e]
      exact q
    · cases h
theorem swaps_no {e : Expr} (h : noComp e = true) (t : Option Expr) (l : Nat) (env : Env) : swapsWith e t l env = pure false := by
  cases e <;> first | rfl | (cases h; done)
theorem sole_no {e : Expr} (h : noComp e = true) (t : Expr) (l : Nat) (env : Env) : swapsWithSole [t] e l env = pure false := swaps_no h (some t) l env
theorem swapped_no {e : Expr} (h : noTup e = true) (t : Expr) (env : Env) : swappedStores [t] e env = pure none := by
  cases e <;> first | (cases t <;> rfl) | (cases h; done)
theorem swapped_sub (o i : Expr) (q : Pos) (e : Expr) (env : Env) : swappedStores [.Subscript o i q] e env = pure none := by
  cases e <;> rfl
def SndS (F : Orc) (ecl : Nat → Value) (wf ne n : Nat) : Prop := ∀ (c : Cc) (st : Stmt) (s : S), cmpS ne n c st = some s → ∀ (X : Cx) (W : WX), OkX F ecl c X W → SS X ecl W st (evS F wf s)
theorem sndS : ∀ n, SndS F ecl wf ne n
  | 0, c, st, s, h, X, W, O => by cases h
  | n + 1, c, st, s, h, X, W, O => by
    have ih := sndS n
    have ihE := fun {e t} (q : cmpE ne c e = some t) => sndN (F := F) (ecl := ecl) ne c e t q X W O
    have ihB : ∀ {b : List Stmt} {sb : SL}, cmpB (cmpS ne n c) b = some sb → SB X ecl W b (evB F wf sb) := fun q => cmpB_ok (fun st s q => ih c st s q X W O) q
    cases st with
    | Assign ts e p =>
      cases ts with
      | nil => cases h
      | cons t ts =>
        cases ts with
        | cons _ _ => cases t <;> cases e <;> cases h
        | nil =>
          cases t with
          | Name x px =>
            by_cases hn : noComp e = true
            · have h' : (if noComp e = true ∧ c.loc x = true then (match c.slot x, cmpE ne c e with | some i, some t => some (S.asg i t) | _, _ => none) else none) = some s := by
                cases e <;> first | (cases hn; done) | exact h
              split at h'
              · rename_i hc
                split at h'
                · rename_i i t e1 e2
                  cases h'
                  obtain ⟨l1, l2⟩ := O.loc hc.2
                  exact ss_asg O.ndX (O.slot e1) l1 (ihE e2).e (swaps_no hn _ _ _) l2
                · cases h'
              · cases h'
            · cases e with
              | ListComp elt gs sc lp =>
                simp only [cmpS] at h
                split at h
                · rename_i hc
                  obtain ⟨c1, c2, c3, c4⟩ := hc
                  split at h
                  · rename_i i t e1 e2
                    cases h
                    cases gs with
                    | nil => cases c4
                    | cons g gs =>
                      cases gs with
                      | cons _ _ => cases c4
                      | nil =>
                        obtain ⟨tg, iter, ifs, as⟩ := g
                        cases ne with
                        | zero => cases e2
                        | succ ne =>
                          by_cases ha : as = 0
                          · subst ha
                            obtain ⟨wi, g, tt, te, h1, h2, h3, h4, h5, h6, h7⟩ := lc_ok (sndN (F := F) (ecl := ecl) ne) O (show cmpLc (fun c' e' => cmpE ne c' e') c elt tg iter ifs sc = some t from e2)
                            have l1 : X.env.scope.names.lookup x = some .local := O.sc _ _ c1
                            exact PS.weak (ps_setLc O.calm O.ndX (O.slot e1) l1 (sw_true O.kind l1 c2 c3) h1 h2 h3 h4 h5 (fold_of h7 X.env)) fun D σ H hh => asg_read hh h6
                          · cases as with
                            | ofNat k =>
                              cases k with
                              | zero => exact absurd rfl ha
                              | succ k => exact nomatch (show (none : Option T) = some t from e2)
                            | negSucc k => exact nomatch (show (none : Option T) = some t from e2)
                  · cases h
                · cases h
              | SetComp _ _ _ _ => simp only [cmpS] at h; exact absurd h (by simp [noComp])
              | DictComp _ _ _ _ _ => simp only [cmpS] at h; exact absurd h (by simp [noComp])
              | _ => exact absurd rfl hn
          | Tuple es k tp =>
            simp only [cmpS] at h
            split at h
            · rename_i hc
              split at h
              · rename_i is t e1 e2
                cases h
                obtain ⟨g1, g2, g3⟩ := names_ok O e1
                exact ss_unp (ihE e2).e (sg_tp O.calm g1 g2 g3) (sole_no hc.1 _ _ _) (swapped_no hc.2 _ _) rfl
              · cases h
            · cases h
          | Subscript o i q =>
            simp only [cmpS] at h
            split at h
            · rename_i hc
              split at h
              · rename_i to ti te e1 e2 e3
                cases h
                exact ss_set (ihE e3).e (ihE e1).e (ihE e2).e (fun to ti ho hi => pg_sub ho hi set_list (fun v => by cases i <;> first | rfl | (cases hc.2; done))) (sole_no hc.1 _ _ _) (swapped_sub o i q e _) rfl
              · cases h
            · cases h
          | _ => cases e <;> cases h
    | AugAssign t op e p =>
      cases t with
      | Name x px =>
        simp only [cmpS] at h
        split at h
        · rename_i hc
          split at h
          · rename_i i t e1 e2
            cases h
            obtain ⟨l1, l2⟩ := O.loc hc.2
            exact ss_aug O.ndX (O.slot e1) l1 (ihE e2).e l2 hc.1
          · cases h
        · cases h
      | _ => cases h
    | Expr e p =>
      simp only [cmpS] at h
      split at h
      · rename_i hc
        cases e1 : cmpE ne c e with
        | none => rw [e1] at h; cases h
        | some t => rw [e1] at h; cases h; exact ss_ex (ihE e1).e (swaps_no hc _ _ _)
      · cases h
    | Return e p =>
      cases e with
      | none => cases h; exact ss_retN
      | some e =>
        simp only [cmpS] at h
        cases e1 : cmpE ne c e with
        | none => rw [e1] at h; cases h
        | some t => rw [e1] at h; cases h; exact ss_ret (ihE e1).e
    | If t a b p =>
      simp only [cmpS] at h
      split at h
      · rename_i tt sa sb e1 e2 e3
        cases h
        exact ss_ife (ihE e1).t (ihB e2) (ihB e3)
      · cases h
    | While t b o p =>
      cases o with
      | cons _ _ => cases h
      | nil =>
        simp only [cmpS] at h
        split at h
        · rename_i tt sb e1 e2
          cases h
          exact ss_whl wf O.po (ihE e1).t (ihB e2)
        · cases h
    | For tg it b o p =>
      cases o with
      | cons _ _ => cases h
      | nil =>
        simp only [cmpS] at h
        split at h
        · rename_i g i sb e1 e2 e3
          cases h
          exact ss_for O.po O.calm (fun σ h p h1 e => it_stays e) (it_ok (sndN (F := F) (ecl := ecl) ne) O e2) (tg_ok O e1) (ihB e3) (fold_of (it_fold e2) X.env)
        · cases h
    | Pass p => cases h; exact ss_pas
    | Break p => cases h; exact ss_brk
    | Continue p => cases h; exact ss_cnt
    | _ => cases h
end

/-! ### the program -/
structure Df where
  name : Str
  ps : List Str
  N : List Str
  st : Stmt
  code : SL
def Df.fn (d : Df) : Fn := ⟨d.ps.length, d.N.length, d.code⟩
/-- what of the text is known of a def -/
structure DfOk (names : List Str) (glb : List (Str × D)) (blt : List Str) (d : Df) : Prop where
  sc : FnScope d.N d.ps (defScope d.st)
  cmp : cmpB (cmpS 60 30 ⟨d.N, defScope d.st, names, glb, blt⟩) (defBody d.st) = some d.code
/-- what of the written part is known of it -/
def DfAt (K : PySem.W.Frag) (mg : Str → Option Value) (d : Df) : Prop := ∃ a fd, mg d.name = some (.ref a) ∧ Fun K d.name d.name d.st a fd ∧ Binds K fd d.ps []
theorem ScK.self {k : NameKind} {o : Option NameKind} (h : o = some k) : ScK k o := by
  subst h
  cases k <;> first | exact rfl | exact Or.inr rfl | exact trivial
section
variable {P : Program} {w : World} {K : PySem.W.Frag} {mg : Str → Option Value} {base : Heap} {ecl : Nat → Value}
theorem fn_ok {Fo : Orc} {names : List Str} {glb : List (Str × D)} {blt : List Str} {d : Df} {k wf : Nat} {f : Addr} {fd : FuncData} {sp : Sp} (hd : DfOk names glb blt d) (F : Fun K d.name d.name d.st f fd)
    (hf : ∀ i f, names[i]? = some f → ∃ a fd ps, mg f = some (.ref a) ∧ PySem.W.keepIn K (.ref a) = true ∧ FnOk P w K mg base (L2.CX P w) k a fd ps (spF K ecl Fo i) ∧ Binds K fd ps [])
    (hg : ∀ x d, glb.lookup x = some d → ∃ u v, mg x = some u ∧ RelV v u ∧ ∀ m H, Den K m H d v) (hb : ∀ x, x ∈ blt → mg x = none)
    (hsp : ∀ vs H Q E, sp vs H Q E → ∃ m h ds, Rel K m h H ∧ DenL K m H ds vs ∧ Post K ecl m H (if ds.length = d.ps.length then (evB Fo wf d.code (startD d.N.length ds) h).out else .bad) Q E) :
    FnOk P w K mg base (L2.CX P w) (k + 1) f fd d.ps sp := by
  refine F.okX hd.sc (fun vs H Q E h => ?_) (fun cdv A outer s H vs Q E hr h => ?_)
  · obtain ⟨m, hh, ds, R, q, p⟩ := hsp _ _ _ _ h
    split at p
    · rename_i hl; rw [← q.len]; exact hl
    · exact p.elim
  · obtain ⟨m, hh, ds, R, q, p⟩ := hsp _ _ _ _ h
    split at p
    · have O : OkX Fo ecl ⟨d.N, defScope d.st, names, glb, blt⟩ (cxOf (L2.CX P w) P w K mg base d.N d.name (defScope d.st) f cdv A outer s H E) (fun cls d _ H => E cls d H) :=
        { N := rfl
          nd := hd.sc.nd
          sc := fun x k h => ScK.self h
          cell := fun x h => rfl
          kind := hd.sc.kind
          calm := rfl
          tk := takes_of rfl rfl rfl rfl
          po := passes_of rfl
          hu := hr.units
          fns := fun i f e => by
            obtain ⟨a, fd, ps, h1, h2, h3, h4⟩ := hf i f e
            exact ⟨a, k, fd, ps, h1, h2, h3, hr, h4⟩
          glb := hg
          blt := hb }
      have B := cmpB_ok (wf := wf) (fun st s q => sndS (F := Fo) (ecl := ecl) (wf := wf) (ne := 60) 30 _ st s q _ _ O) hd.cmp
      refine ⟨_, B, m, _, hh, R, DenS.start d.N q, ?_⟩
      cases e : evB Fo wf d.code (startD d.N.length ds) hh with
      | nx σ h1 => rw [e] at p; exact fun m' H' σ' s' R' S' => p m' H' .non s' R' rfl
      | ret v h1 => rw [e] at p; exact fun m' H' v s' R' q' => p m' H' v s' R' q'
      | brk σ h1 => rw [e] at p; exact p.elim
      | cnt σ h1 => rw [e] at p; exact p.elim
      | exc x σ h1 => rw [e] at p; exact fun m' H' σ' s' R' S' => p m' H' s' R'
      | bad => rw [e] at p; exact p.elim
    · exact p.elim
theorem all_ok {glb : List (Str × D)} {blt : List Str} {ds : List Df} {wf : Nat} (hok : ∀ d ∈ ds, DfOk (ds.map Df.name) glb blt d) (hat : ∀ d ∈ ds, DfAt K mg d)
    (hg : ∀ x d, glb.lookup x = some d → ∃ u v, mg x = some u ∧ RelV v u ∧ ∀ m H, Den K m H d v) (hb : ∀ x, x ∈ blt → mg x = none) :
    ∀ (n i : Nat) (d : Df), ds[i]? = some d → ∀ a fd, mg d.name = some (.ref a) → Fun K d.name d.name d.st a fd → FnOk P w K mg base (L2.CX P w) n a fd d.ps (spF K ecl (callN (ds.map Df.fn) wf n) i)
  | 0, i, d, e, a, fd, h1, h2 => ⟨fun vs H Q E ⟨m, h, ds, R, q, p⟩ => p.elim, fun A outer s H args us vs Q E _ _ _ _ ⟨m, h, ds, R, q, p⟩ => p.elim⟩
  | n + 1, i, d, e, a, fd, h1, h2 => by
    refine fn_ok (ecl := ecl) (Fo := callN (ds.map Df.fn) wf n) (wf := wf) (hok d (List.mem_of_getElem? e)) h2 (fun j f ef => ?_) hg hb fun vs H Q E ⟨m, h, dd, R, q, p⟩ => ⟨m, h, dd, R, q, ?_⟩
    · rw [List.getElem?_map] at ef
      cases ed : ds[j]? with
      | none => rw [ed] at ef; cases ef
      | some d' =>
        rw [ed] at ef
        cases ef
        obtain ⟨a', fd', g1, g2, g3⟩ := hat d' (List.mem_of_getElem? ed)
        exact ⟨a', fd', d'.ps, g1, g2.kp, all_ok hok hat hg hb n j d' ed a' fd' g1 g2, g3⟩
    · have e2 : (ds.map Df.fn)[i]? = some d.fn := by rw [List.getElem?_map, e]; rfl
      unfold callN at p
      rw [e2] at p
      exact p
end
end Eg
set_option maxHeartbeats 8000000
/-! Part 12: a law's end. -/
namespace Eg
open PySem PySem.Spec PyProof.Rows L2

def Df.dd (d : Df) : He.DefD := ⟨(d.name, none), d.name, d.name, defArgs d.st, defBody d.st, defScope d.st, [], []⟩
def gFa : Str × D → He.Fa
  | (x, .int i) => .int x i
  | (x, .str s) => .str x s
  | (x, _) => .glo x
abbrev fnOfs (ds : List Df) : List He.DefD := ds.map Df.dd
abbrev faOf (ds : List Df) (glb : List (Str × D)) (blt : List Str) : List He.Fa := ds.map (fun d => .glo d.name) ++ (glb.map gFa ++ blt.map .free)
def gFlat : D → Bool
  | .int _ => true
  | .str _ => true
  | _ => false
structure DfX (names : List Str) (glb : List (Str × D)) (blt : List Str) (d : Df) : Prop extends DfOk names glb blt d where
  binds : ∀ (kV doc pm : Value) (an : Option Addr) (cdv ct : Value) (us : List Value), us.length = d.ps.length → bindArgs (PySem.W.fnOf d.name d.name (defArgs d.st) (defBody d.st) (defScope d.st) .none kV doc pm an cdv ct) ⟨us, []⟩ = pure (d.ps.zip us)

theorem den_nums {K : PySem.W.Frag} {H : Hp} : ∀ ns : List Int, DenL K [] H (ns.map D.int) (ns.map V.int)
  | [] => rfl
  | n :: ns => ⟨.int n, _, rfl, rfl, den_nums ns⟩
theorem rel_nil {K : PySem.W.Frag} {H : Hp} : Rel K [] [] H := ⟨rfl, List.nodup_nil, fun n o e => by simp at e⟩

def ecl0 (_ : Nat) : Value := .none

section
variable {P : Program} {w : World} {K : PySem.W.Frag} {h : Heap} {mg : Str → Option Value} {fa : Addr}
theorem lookup_mem {x : Str} {d : D} : ∀ {l : List (Str × D)}, l.lookup x = some d → (x, d) ∈ l
  | [], e => by cases e
  | (y, z) :: r, e => by
    unfold List.lookup at e
    split at e
    · rename_i q
      cases e
      rw [beq_iff_eq] at q
      subst q
      exact List.mem_cons_self
    · exact List.mem_cons_of_mem _ (lookup_mem e)
theorem law_facts {ds : List Df} {glb : List (Str × D)} {blt : List Str} {wf k L : Nat} {dL : Df} {ecl : Nat → Value} (X : K.In h) (G : h.Ns mainGlobals mg) (c : He.SaysD (faOf ds glb blt) (fnOfs ds) K)
    (hok : ∀ d ∈ ds, DfX (ds.map Df.name) glb blt d) (hgl : (glb.all fun q => gFlat q.2) = true) (hL : ds[L]? = some dL) (hps : dL.ps = [("script" : Str)]) (hfa : mg dL.name = some (.ref fa)) :
    ∃ fd : FuncData, (∀ (s : Shared) (v : Value), BindsTo s fd ⟨[v], []⟩ [("script", v)]) ∧
      ∀ base : Heap, K.In base → base.Ns mainGlobals mg → FnOk P w K mg base (L2.CX P w) k fa fd [("script" : Str)] (spF K ecl (callN (ds.map Df.fn) wf k) L) := by
  have at0 : ∀ d ∈ ds, ∃ fd, mg d.name = some (.ref (He.ga K d.name)) ∧ FunD K d.name d.name (defArgs d.st) (defBody d.st) (defScope d.st) [] [] (He.ga K d.name) fd := fun d hd => by
    obtain ⟨fd, F⟩ := c.defs (List.mem_map_of_mem (f := Df.dd) hd)
    exact ⟨fd, He.glo_ok X G (c.facts (List.mem_append_left _ (List.mem_map_of_mem (f := fun d : Df => He.Fa.glo d.name) hd))), F⟩
  have hat : ∀ d ∈ ds, DfAt K mg d := fun d hd => by
    obtain ⟨fd, e, F⟩ := at0 d hd
    exact ⟨_, fd, e, He5.fun_of F, FunD.bindsN F (hok d hd).binds⟩
  have hb : ∀ x, x ∈ blt → mg x = none := fun x hx => He.free_ok X G (c.facts (List.mem_append_right _ (List.mem_append_right _ (List.mem_map_of_mem (f := He.Fa.free) hx))))
  have hg : ∀ x d, glb.lookup x = some d → ∃ u v, mg x = some u ∧ RelV v u ∧ ∀ m H, Den K m H d v := fun x d e => by
    have hm := lookup_mem e
    have hf := c.facts (List.mem_append_right _ (List.mem_append_left _ (List.mem_map_of_mem (f := gFa) hm)))
    have ht := List.all_eq_true.mp hgl _ hm
    cases d with
    | int i =>
      obtain ⟨t, e1⟩ := He.int_ok X G (x := x) (i := i) hf
      exact ⟨_, .int i, e1, ⟨t, rfl⟩, fun _ _ => rfl⟩
    | str s =>
      obtain ⟨t, e1⟩ := He.str_ok X G (x := x) (z := s) hf
      exact ⟨_, .str s, e1, ⟨t, rfl⟩, fun _ _ => rfl⟩
    | _ => cases ht
  obtain ⟨fd, e, F⟩ := at0 dL (List.mem_of_getElem? hL)
  rw [e] at hfa
  cases hfa
  have b := FunD.bindsA F (hok dL (List.mem_of_getElem? hL)).binds
  refine ⟨fd, fun s v => ?_, fun base _ _ => ?_⟩
  · have q := b s [v] (by rw [hps]; rfl)
    rw [hps] at q
    exact q
  · rw [← hps]
    exact all_ok (fun d hd => (hok d hd).toDfOk) hat hg hb k L dL hL _ fd e (He5.fun_of F)
theorem law_sp {H : Hp} {a : Addr} {ns : List Int} {F : Orc} {L : Nat} {ecl : Nat → Value} (hO : Only H) (hS : SqL K H a (ns.map V.int)) (hl : ∃ h', F L [.fl (ns.map D.int)] [] = .ok (.bl true) h') :
    spF K ecl F L [.ref a] H (fun v _ => v = .bl true) fun _ _ _ => False := by
  obtain ⟨h', e⟩ := hl
  refine ⟨[], [], [.fl (ns.map D.int)], rel_nil, ⟨_, [], rfl, ⟨a, _, rfl, ?_, den_nums ns⟩, rfl⟩, ?_⟩
  · rcases hS with (h1 | ⟨o, h1⟩) | h1
    · rcases hO a with h2 | ⟨o, xs, h2⟩ <;> (rw [h1] at h2; cases h2)
    · exact .inl ⟨o, h1⟩
    · exact .inr h1
  · rw [e]
    exact fun m' H' v s R q => q
end
theorem cx_none {P : Program} {w : World} {H : Hp} {s : Shared} {e : Value} {s' : Shared} (h : L2.CX P w [] H s (fun _ _ _ => False) e s') : False :=
  let ⟨_, _, _, _, _, _, _, _, _, _, _, _, z⟩ := h
  z
/-- the last goal of a law: YP gives the written part -/
theorem walk_eg {lw : PySem.W.OpenLaw} {top depth : Nat} {vw : Program} {lo : List Str} {XP : (Str → Option Value) → Heap → Prop} {YP : World → Heap → Prop} {df : DefRec} {pn : Str}
    (h1 : lw.most = some top) (h2 : top ≤ sizeLine) (h3 : df.params.defaults = []) (h4 : Room depth callerA)
    (h5 : ∀ (w : World) (mg : Str → Option Value) (fa : Addr) (hp : Heap), YP w hp → hp.Ns mainGlobals mg → mg df.name = some (.ref fa) →
      ∃ (K : PySem.W.Frag) (fd : FuncData) (F : Orc) (L : Nat) (ecl : Nat → Value), K.In hp ∧ (∀ (s : Shared) (u : Value), BindsTo s fd ⟨[u], []⟩ [(pn, u)]) ∧
        (∀ ns : List Int, ns.length ≤ top → (∀ z ∈ ns, Builtin.Int.intBits z ≤ 1048576) → ∃ h', F L [.fl (ns.map D.int)] [] = .ok (.bl true) h') ∧
        ∀ base : Heap, K.In base → base.Ns mainGlobals mg → FnOk lw.prog w K mg base (L2.CX lw.prog w) depth fa fd [pn] (spF K ecl F L)) :
    PySem.W.WalkO vw lo XP YP lw.row.toRowW df [] (fun f vs => PySem.call f vs) := by
  refine Att.attach_callB h1 h3 ?_
  intro w s0 s1 mg mb fa ob pm cd doc arg vals nums G Y g1 g2 g3 g4 g5 g6 g7 g8 g9
  obtain ⟨K, fd, F, L, ecl, k1, k2, k3, k4⟩ := h5 w mg fa _ Y G.T.g g4
  refine law_call k1 G.T.g G.T.b G.T.builtins G.T.nolimit g9 g5 g6 (Nat.le_trans g7 h2) h4 k4 k2 ?_ ?_
  · exact fun H hO hS => law_sp hO hS (k3 nums g7 g8)
  · exact fun H e s' z => cx_none z
end Eg
set_option maxHeartbeats 4000000
/-! Part 13: reasoning about the small syntax. -/
namespace Eg
open PySem L2

def Res.W0 {α : Type} (r : Res α) (E : Nat → Hd → Prop) (Q : α → Hd → Prop) : Prop := match r with
  | .ok a h => Q a h
  | .exc e h => E e h
  | .bad => False
/-- a structure, so that nothing unfolds it -/
structure Res.W {α : Type} (r : Res α) (E : Nat → Hd → Prop) (Q : α → Hd → Prop) : Prop where
  out : r.W0 E Q
theorem Res.W_eq {α : Type} {r : Res α} {E : Nat → Hd → Prop} {Q : α → Hd → Prop} : r.W E Q = r.W0 E Q := propext ⟨fun w => w.out, fun w => ⟨w⟩⟩
structure Po where
  nx : Sg → Hd → Prop
  rt : D → Hd → Prop
  bk : Sg → Hd → Prop
  ct : Sg → Hd → Prop
  ex : Nat → Sg → Hd → Prop
def SR.W0 (r : SR) (P : Po) : Prop := match r with
  | .nx σ h => P.nx σ h
  | .ret d h => P.rt d h
  | .brk σ h => P.bk σ h
  | .cnt σ h => P.ct σ h
  | .exc e σ h => P.ex e σ h
  | .bad => False
structure SR.W (r : SR) (P : Po) : Prop where
  out : r.W0 P
theorem SR.W_eq {r : SR} {P : Po} : r.W P = r.W0 P := propext ⟨fun w => w.out, fun w => ⟨w⟩⟩
abbrev XF : Nat → Hd → Prop := fun _ _ => False
/-- the end of a def -/
def fin (E : Nat → Hd → Prop) (Q : D → Hd → Prop) : Po := ⟨fun _ h => Q .non h, Q, fun _ _ => False, fun _ _ => False, fun e _ h => E e h⟩

theorem fin_nx {E : Nat → Hd → Prop} {Q : D → Hd → Prop} {σ : Sg} {h : Hd} : (fin E Q).nx σ h = Q .non h := rfl
theorem fin_rt {E : Nat → Hd → Prop} {Q : D → Hd → Prop} {d : D} {h : Hd} : (fin E Q).rt d h = Q d h := rfl
theorem fin_bk {E : Nat → Hd → Prop} {Q : D → Hd → Prop} {σ : Sg} {h : Hd} : (fin E Q).bk σ h = False := rfl
theorem fin_ct {E : Nat → Hd → Prop} {Q : D → Hd → Prop} {σ : Sg} {h : Hd} : (fin E Q).ct σ h = False := rfl
theorem fin_ex {E : Nat → Hd → Prop} {Q : D → Hd → Prop} {σ : Sg} {e : Nat} {h : Hd} : (fin E Q).ex e σ h = E e h := rfl
section
variable {α β : Type} {E : Nat → Hd → Prop} {P : Po} {h : Hd} {σ : Sg} {F : Orc} {wf : Nat}
theorem W_ok {a : α} {Q : α → Hd → Prop} : (Res.ok a h).W E Q = Q a h := Res.W_eq
theorem W_bad {Q : α → Hd → Prop} : (Res.bad : Res α).W E Q = False := Res.W_eq
theorem W_exc {Q : α → Hd → Prop} {e : Nat} : (Res.exc e h : Res α).W E Q = E e h := Res.W_eq
theorem W_bind {r : Res α} {f : α → Hd → Res β} {Q : β → Hd → Prop} : (r.bind f).W E Q = r.W E (fun a h => (f a h).W E Q) := by cases r <;> simp only [Res.bind, W_ok, W_bad, W_exc]
theorem W_nx {σ : Sg} : (SR.nx σ h).W P = P.nx σ h := SR.W_eq
theorem W_rt {d : D} : (SR.ret d h).W P = P.rt d h := SR.W_eq
theorem W_bk {σ : Sg} : (SR.brk σ h).W P = P.bk σ h := SR.W_eq
theorem W_ct {σ : Sg} : (SR.cnt σ h).W P = P.ct σ h := SR.W_eq
theorem W_ex {σ : Sg} {e : Nat} : (SR.exc e σ h).W P = P.ex e σ h := SR.W_eq
theorem W_badS : SR.bad.W P = False := SR.W_eq
theorem W_st {r : Res α} {f : α → Hd → SR} : (r.st σ f).W P = r.W (fun e h => P.ex e σ h) (fun a h => (f a h).W P) := by cases r <;> simp only [Res.st, W_ok, W_bad, W_exc, W_badS, W_ex]
theorem W_okd {o : Option D} {Q : D → Hd → Prop} : (okd o h).W E Q = ∃ d, o = some d ∧ Q d h := by
  cases o <;> simp [okd, W_ok, W_bad]
theorem W_okb {o : Option Bool} {Q : D → Hd → Prop} : (okb o h).W E Q = ∃ d, o = some d ∧ Q (.bl d) h := by
  cases o <;> simp [okb, W_ok, W_bad]
theorem W_guard {c : Prop} [Decidable c] {r : Res α} {Q : α → Hd → Prop} : (if c then r else .bad).W E Q = (c ∧ r.W E Q) := by
  by_cases hc : c <;> simp [hc, W_bad]
theorem W_iteR {c : Prop} [Decidable c] {r r' : Res α} {Q : α → Hd → Prop} : (if c then r else r').W E Q = ((c → r.W E Q) ∧ (¬ c → r'.W E Q)) := by
  by_cases hc : c <;> simp [hc]
theorem W_iteS {c : Prop} [Decidable c] {r r' : SR} : (if c then r else r').W P = ((c → r.W P) ∧ (¬ c → r'.W P)) := by
  by_cases hc : c <;> simp [hc]
theorem Res.W.imp {r : Res α} {Q Q' : α → Hd → Prop} (w : r.W E Q) (f : ∀ a h, Q a h → Q' a h) : r.W E Q' := by
  cases r with
  | ok a h => exact ⟨f _ _ w.out⟩
  | exc e h => exact ⟨w.out⟩
  | bad => exact ⟨w.out⟩
theorem Res.W.to {r : Res α} {E' : Nat → Hd → Prop} {Q Q' : α → Hd → Prop} (w : r.W XF Q) (f : ∀ a h, Q a h → Q' a h) : r.W E' Q' := by
  cases r with
  | ok a h => exact ⟨f _ _ w.out⟩
  | exc e h => exact (show False from w.out).elim
  | bad => exact ⟨w.out⟩
theorem Res.W.toE {r : Res α} {E E' : Nat → Hd → Prop} {Q Q' : α → Hd → Prop} (w : r.W E Q) (f : ∀ a h, Q a h → Q' a h) (g : ∀ e h, E e h → E' e h) : r.W E' Q' := by
  cases r with
  | ok a h => exact ⟨f _ _ w.out⟩
  | exc e h => exact ⟨g _ _ w.out⟩
  | bad => exact ⟨w.out⟩
theorem Res.W.get {r : Res α} {Q : α → Hd → Prop} (w : r.W XF Q) : ∃ a h, r = .ok a h ∧ Q a h := by
  cases r with
  | ok a h => exact ⟨a, h, rfl, w.out⟩
  | exc e h => exact (show False from w.out).elim
  | bad => exact (show False from w.out).elim
theorem W_nil : (evB F wf .nil σ h).W P = P.nx σ h := by simp only [evB, W_nx]
theorem W_cons {s : S} {r : SL} : (evB F wf (.cons s r) σ h).W P = (evS F wf s σ h).W { P with nx := fun σ1 h1 => (evB F wf r σ1 h1).W P } := by
  simp only [evB]
  cases evS F wf s σ h <;> simp only [W_nx, W_rt, W_bk, W_ct, W_ex, W_badS]
theorem SR.W.imp {r : SR} {P P' : Po} (w : r.W P) (h1 : ∀ σ h, P.nx σ h → P'.nx σ h) (h2 : ∀ d h, P.rt d h → P'.rt d h) (h3 : ∀ σ h, P.bk σ h → P'.bk σ h) (h4 : ∀ σ h, P.ct σ h → P'.ct σ h) (h5 : ∀ e σ h, P.ex e σ h → P'.ex e σ h) : r.W P' := by
  cases r with
  | nx σ h => exact ⟨h1 _ _ w.out⟩
  | ret d h => exact ⟨h2 _ _ w.out⟩
  | brk σ h => exact ⟨h3 _ _ w.out⟩
  | cnt σ h => exact ⟨h4 _ _ w.out⟩
  | exc e σ h => exact ⟨h5 _ _ _ w.out⟩
  | bad => exact ⟨w.out⟩
theorem W_out {r : SR} {Q : D → Hd → Prop} : r.out.W E Q = r.W (fin E Q) := by cases r <;> simp only [SR.out, W_ok, W_bad, W_exc, W_nx, W_rt, W_bk, W_ct, W_ex, W_badS, fin]
/-- a call -/
theorem W_call {Pr : List Fn} {n f ps ns : Nat} {code : SL} {as : List D} {Q : D → Hd → Prop} (hf : Pr[f]? = some ⟨ps, ns, code⟩) (hl : as.length = ps) (w : (evB (callN Pr wf n) wf code (startD ns as) h).W (fin E Q)) :
    (callN Pr wf (n + 1) f as h).W E Q := by
  unfold callN
  rw [hf]
  simp only [hl, if_true]
  rw [W_out]
  exact w
/-! ### loops -/
theorem W_for_aux {full : List D} {src : Option Nat} {tg : D → Sg → Option Sg} {body : Sg → Hd → SR} (I : Nat → Sg → Hd → Prop) (step : ∀ i d σ h, full[i]? = some d → I i σ h → ∃ σ1, tg d σ = some σ1 ∧ (body σ1 h).W { P with nx := fun σ2 h2 => stays src full h2 ∧ I (i + 1) σ2 h2, ct := fun σ2 h2 => stays src full h2 ∧ I (i + 1) σ2 h2, bk := P.nx }) (done : ∀ σ h, I full.length σ h → P.nx σ h) :
    ∀ (ds : List D) (i : Nat) (σ : Sg) (h : Hd), full.drop i = ds → i ≤ full.length → I i σ h → (forItems full src tg body ds σ h).W P
  | [], i, σ, h, e, hi, J => by
    have : i = full.length := by
      have := congrArg List.length e
      rw [List.length_drop, List.length_nil] at this
      omega
    subst this
    rw [show forItems full src tg body [] σ h = .nx σ h from rfl, W_nx]
    exact done _ _ J
  | d :: ds, i, σ, h, e, hi, J => by
    have hlt : i < full.length := by
      rcases Nat.lt_or_ge i full.length with z | z
      · exact z
      · rw [List.drop_eq_nil_of_le z] at e; cases e
    have e2 : full.drop (i + 1) = ds := by
      rw [List.drop_eq_getElem_cons hlt] at e
      exact (List.cons.inj e).2
    have e1 : full[i]? = some d := by
      rw [List.drop_eq_getElem_cons hlt] at e
      rw [List.getElem?_eq_getElem hlt, (List.cons.inj e).1]
    obtain ⟨σ1, et, w⟩ := step i d σ h e1 J
    unfold forItems
    rw [et]
    dsimp only
    cases eb : body σ1 h with
    | nx σ2 h2 =>
      rw [eb] at w
      obtain ⟨s1, J1⟩ := w.out
      simp only [if_pos s1]
      exact W_for_aux I step done ds (i + 1) σ2 h2 e2 hlt J1
    | cnt σ2 h2 =>
      rw [eb] at w
      obtain ⟨s1, J1⟩ := w.out
      simp only [if_pos s1]
      exact W_for_aux I step done ds (i + 1) σ2 h2 e2 hlt J1
    | brk σ2 h2 => rw [eb] at w; exact ⟨w.out⟩
    | ret d h2 => rw [eb] at w; exact ⟨w.out⟩
    | exc x σ2 h2 => rw [eb] at w; exact ⟨w.out⟩
    | bad => rw [eb] at w; exact ⟨w.out⟩
/-- a loop, by an invariant -/
theorem W_for {full : List D} {src : Option Nat} {tg : D → Sg → Option Sg} {body : Sg → Hd → SR} (I : Nat → Sg → Hd → Prop) (start : I 0 σ h) (step : ∀ i d σ h, full[i]? = some d → I i σ h → ∃ σ1, tg d σ = some σ1 ∧ (body σ1 h).W { P with nx := fun σ2 h2 => stays src full h2 ∧ I (i + 1) σ2 h2, ct := fun σ2 h2 => stays src full h2 ∧ I (i + 1) σ2 h2, bk := P.nx }) (done : ∀ σ h, I full.length σ h → P.nx σ h) :
    (forItems full src tg body full σ h).W P := W_for_aux I step done full 0 σ h rfl (Nat.zero_le _) start
theorem W_while_aux {test : Sg → Hd → Res Bool} {body : Sg → Hd → SR} (I : Nat → Sg → Hd → Prop) (step : ∀ i σ h, I i σ h → (test σ h).W (fun e h => P.ex e σ h) (fun b h1 => if b = true then (body σ h1).W { P with nx := fun σ2 h2 => ∃ j, j < i ∧ I j σ2 h2, ct := fun σ2 h2 => ∃ j, j < i ∧ I j σ2 h2, bk := P.nx } else P.nx σ h1)) :
    ∀ (n i : Nat) (σ : Sg) (h : Hd), i < n → I i σ h → (whileF test body n σ h).W P
  | 0, i, σ, h, hi, J => absurd hi (Nat.not_lt_zero _)
  | n + 1, i, σ, h, hi, J => by
    have w := step i σ h J
    unfold whileF
    cases et : test σ h with
    | bad => rw [et] at w; exact ⟨w.out⟩
    | exc e h1 => rw [et] at w; exact ⟨w.out⟩
    | ok b h1 =>
      rw [et] at w
      replace w := w.out
      cases b with
      | false => exact ⟨w⟩
      | true =>
        replace w : (body σ h1).W _ := w
        dsimp only
        cases eb : body σ h1 with
        | nx σ2 h2 => rw [eb] at w; obtain ⟨j, hj, J1⟩ := w.out; exact W_while_aux I step n j σ2 h2 (by omega) J1
        | cnt σ2 h2 => rw [eb] at w; obtain ⟨j, hj, J1⟩ := w.out; exact W_while_aux I step n j σ2 h2 (by omega) J1
        | brk σ2 h2 => rw [eb] at w; exact ⟨w.out⟩
        | ret d h2 => rw [eb] at w; exact ⟨w.out⟩
        | exc x σ2 h2 => rw [eb] at w; exact ⟨w.out⟩
        | bad => rw [eb] at w; exact ⟨w.out⟩
/-- a comprehension, by an invariant over what is made -/
theorem W_lc_aux {full : List D} {src : Option Nat} {tg : D → Option Sg} {cond : Sg → Hd → Res Bool} {elt : Sg → Hd → Res D} (I : Nat → List D → Hd → Prop) (step : ∀ i d r h, full[i]? = some d → I i r h → ∃ σ1, tg d = some σ1 ∧ (cond σ1 h).W XF (fun b h1 => if b = true then (elt σ1 h1).W XF (fun y h2 => stays src full h2 ∧ I (i + 1) (r ++ [y]) h2) else stays src full h1 ∧ I (i + 1) r h1)) :
    ∀ (ds : List D) (i : Nat) (r : List D) (h : Hd), full.drop i = ds → i ≤ full.length → I i r h → ∃ r2 h2, lcItems full src tg cond elt ds h = .ok r2 h2 ∧ I full.length (r ++ r2) h2
  | [], i, r, h, e, hi, J => by
    have : i = full.length := by
      have := congrArg List.length e
      rw [List.length_drop, List.length_nil] at this
      omega
    subst this
    exact ⟨[], h, rfl, by rw [List.append_nil]; exact J⟩
  | d :: ds, i, r, h, e, hi, J => by
    have hlt : i < full.length := by
      rcases Nat.lt_or_ge i full.length with z | z
      · exact z
      · rw [List.drop_eq_nil_of_le z] at e; cases e
    have e2 : full.drop (i + 1) = ds := by
      rw [List.drop_eq_getElem_cons hlt] at e
      exact (List.cons.inj e).2
    have e1 : full[i]? = some d := by
      rw [List.drop_eq_getElem_cons hlt] at e
      rw [List.getElem?_eq_getElem hlt, (List.cons.inj e).1]
    obtain ⟨σ1, et, w⟩ := step i d r h e1 J
    obtain ⟨b, h1, ec, w⟩ := w.get
    unfold lcItems
    rw [et]
    simp only [ec]
    cases b with
    | true =>
      obtain ⟨y, h2, ey, s1, J1⟩ := Res.W.get w
      obtain ⟨r2, h3, e3, J3⟩ := W_lc_aux I step ds (i + 1) (r ++ [y]) h2 e2 hlt J1
      refine ⟨y :: r2, h3, ?_, by rw [← List.append_cons] at J3; exact J3⟩
      simp only [ey, if_pos s1, e3]
    | false =>
      obtain ⟨s1, J1⟩ := w
      obtain ⟨r2, h3, e3, J3⟩ := W_lc_aux I step ds (i + 1) r h1 e2 hlt J1
      exact ⟨r2, h3, by simp only [if_pos s1, e3], J3⟩
theorem W_lcM {lc : Res (List D)} {Q : D → Hd → Prop} : (match lc with | .ok r h2 => if r.length ≤ lim then .ok (.ref h2.length) (h2 ++ [.lst r]) else .bad | _ => .bad : Res D).W E Q ↔ ∃ r h2, lc = .ok r h2 ∧ r.length ≤ lim ∧ Q (.ref h2.length) (h2 ++ [.lst r]) := by
  cases lc with
  | ok r h2 =>
    dsimp only
    rw [W_guard, W_ok]
    constructor
    · rintro ⟨h1, q⟩; exact ⟨r, h2, rfl, h1, q⟩
    · rintro ⟨r, h2, e, h1, q⟩; cases e; exact ⟨h1, q⟩
  | exc e h => simp [W_bad]
  | bad => simp [W_bad]
end

/-! ### what stays of a heap -/
structure Fr (ps : List Nat) (h h' : Hd) : Prop where
  le : h.length ≤ h'.length
  get : ∀ i, i < h.length → i ∉ ps → h'[i]? = h[i]?
section
variable {ps qs : List Nat} {h h1 h2 : Hd} {o : Ob} {i k : Nat}
theorem Fr.refl : Fr ps h h := ⟨Nat.le_refl _, fun _ _ _ => rfl⟩
theorem Fr.trans (a : Fr ps h h1) (b : Fr ps h1 h2) : Fr ps h h2 := ⟨Nat.le_trans a.le b.le, fun i hi hn => (b.get i (Nat.lt_of_lt_of_le hi a.le) hn).trans (a.get i hi hn)⟩
theorem Fr.mono (a : Fr ps h h1) (hs : ∀ i, i ∈ ps → i ∈ qs) : Fr qs h h1 := ⟨a.le, fun i hi hn => a.get i hi fun z => hn (hs i z)⟩
theorem Fr.nil (a : Fr [] h h1) : Fr qs h h1 := a.mono fun _ z => (List.not_mem_nil z).elim
theorem lt_of_get (e : h[i]? = some o) : i < h.length := (List.getElem?_eq_some_iff.mp e).1
theorem Fr.at (a : Fr ps h h1) (e : h[i]? = some o) (hn : i ∉ ps) : h1[i]? = some o := (a.get i (lt_of_get e) hn).trans e
theorem Fr.at0 (a : Fr [] h h1) (e : h[i]? = some o) : h1[i]? = some o := a.at e List.not_mem_nil
theorem Fr.new : Fr ps h (h ++ [o]) := ⟨by simp, fun i hi _ => by rw [List.getElem?_append_left hi]⟩
theorem new_at : (h ++ [o])[h.length]? = some o := by simp
/-- an object that was not there ahead is changed -/
theorem Fr.put (a : Fr ps h h1) (hk : h.length ≤ k) : Fr ps h (h1.set k o) := ⟨by rw [List.length_set]; exact a.le, fun i hi hn => by rw [List.getElem?_set_ne (by omega)]; exact a.get i hi hn⟩
theorem Fr.putIn (a : Fr ps h h1) (hk : k ∈ ps) : Fr ps h (h1.set k o) := ⟨by rw [List.length_set]; exact a.le, fun i hi hn => by rw [List.getElem?_set_ne (fun z => hn (by rw [← z]; exact hk))]; exact a.get i hi hn⟩
theorem put_at (hk : k < h.length) : (h.set k o)[k]? = some o := by simp [hk]
theorem put_ne (hk : k ≠ i) : (h.set k o)[i]? = h[i]? := List.getElem?_set_ne hk
/-- what was not there is dropped from the list -/
theorem Fr.drop (a : Fr (k :: ps) h h1) (hk : h.length ≤ k) : Fr ps h h1 := ⟨a.le, fun i hi hn => a.get i hi fun z => by
  rcases List.mem_cons.mp z with z | z
  · omega
  · exact hn z⟩
end
/-! ### texts -/
theorem ofString_inj {a b : String} : (Str.ofString a = Str.ofString b) ↔ a = b := by
  constructor
  · intro e
    rw [Str.ofString_eq_toList, Str.ofString_eq_toList] at e
    have e2 : a.toList.map Char.toNat = b.toList.map Char.toNat := by simpa using e
    have e3 : a.toList = b.toList := by
      refine (List.map_inj_right ?_).mp e2
      intro x y hxy
      exact Char.ext (UInt32.toNat_inj.mp hxy)
    exact String.toList_inj.mp e3
  · rintro rfl; rfl
end Eg
set_option maxHeartbeats 4000000
/-! Part 14: what each form asks. -/
namespace Eg
open PySem L2

section
variable {α β : Type} {E : Nat → Hd → Prop} {P : Po} {h : Hd} {σ : Sg} {F : Orc} {wf : Nat} {Q : D → Hd → Prop}
theorem ex_some {α : Type} {a : α} {p : α → Prop} : (∃ d, some a = some d ∧ p d) = p a := by simp
theorem ex_none {α : Type} {p : α → Prop} : (∃ d, none = some d ∧ p d) = False := by simp
theorem W_var {i : Nat} : (evE F (.var i) σ h).W E Q = ∃ d, σ[i]? = some (some d) ∧ Q d h := by
  simp only [evE]
  split
  · rename_i d e; simp [e, W_ok, W_bad, W_exc]
  · rename_i z
    simp only [W_bad, eq_iff_iff, false_iff, not_exists, not_and]
    exact fun d e => absurd e (z d)
theorem W_cst {d : D} : (evE F (.cst d) σ h).W E Q = Q d h := by simp only [evE, evA, evO, evC, W_ok]
theorem W_bin {op : Operator} {a b : T} : (evE F (.bin op a b) σ h).W E Q = (evE F a σ h).W E fun x h1 => (evE F b σ h1).W E fun y h2 => (evBin op x y h2).W E Q := by
  simp only [evE, W_bind]
theorem W_neg {a : T} : (evE F (.neg a) σ h).W E Q = (evE F a σ h).W E fun x h1 => ∃ i, x = .int i ∧ Q (.int (-i)) h1 := by
  simp only [evE, W_bind]
  congr 1; funext x h1
  cases x <;> simp [W_ok, W_bad, W_exc]
theorem W_cmp {op : CmpOp} {a b : T} : (evE F (.cmp op a b) σ h).W E Q = (evE F a σ h).W E fun x h1 => (evE F b σ h1).W E fun y h2 => (evCmp op x y h2).W E Q := by
  simp only [evE, W_bind]
theorem W_chn {o1 o2 : CmpOp} {a b c : T} : (evE F (.chn o1 o2 a b c) σ h).W E Q = (evE F a σ h).W E fun x h1 => (evE F b σ h1).W E fun y h2 => (evCmp o1 x y h2).W E fun k h3 => ∃ b, k = .bl b ∧ ((b = true → (evE F c σ h3).W E fun z h4 => (evCmp o2 y z h4).W E Q) ∧ (b = false → Q (.bl false) h3)) := by
  simp only [evE, W_bind]
  congr 1; funext x h1; congr 1; funext y h2; congr 1; funext k h3
  cases k with
  | bl b => cases b <;> simp [W_bind, W_ok]
  | _ => simp [W_ok, W_bad, W_exc]
theorem W_and {a b : T} : (evE F (.and a b) σ h).W E Q = (evE F a σ h).W E fun x h1 => ∃ k, x = .bl k ∧ ((k = true → (evE F b σ h1).W E Q) ∧ (k = false → Q (.bl false) h1)) := by
  simp only [evE, W_bind, blR]
  congr 1; funext x h1
  cases x with
  | bl b => cases b <;> simp [W_ok, W_bad, W_exc]
  | _ => simp [W_ok, W_bad, W_exc]
theorem W_or {a b : T} : (evE F (.or a b) σ h).W E Q = (evE F a σ h).W E fun x h1 => ∃ k, x = .bl k ∧ ((k = true → Q (.bl true) h1) ∧ (k = false → (evE F b σ h1).W E Q)) := by
  simp only [evE, W_bind, blR]
  congr 1; funext x h1
  cases x with
  | bl b => cases b <;> simp [W_ok, W_bad, W_exc]
  | _ => simp [W_ok, W_bad, W_exc]
theorem W_not {a : T} : (evE F (.not a) σ h).W E Q = (evE F a σ h).W E fun x h1 => ∃ k, x = .bl k ∧ Q (.bl (!k)) h1 := by
  simp only [evE, W_bind, blR]
  congr 1; funext x h1
  cases x with
  | bl b => cases b <;> simp [W_ok, W_bad, W_exc]
  | _ => simp [W_ok, W_bad, W_exc]
theorem W_ite {c a b : T} : (evE F (.ite c a b) σ h).W E Q = (evT F c σ h).W E fun k h1 => (k = true → (evE F a σ h1).W E Q) ∧ (k = false → (evE F b σ h1).W E Q) := by
  simp only [evE, W_bind]
  congr 1; funext k h1
  cases k <;> simp
theorem W_tup {ts : TL} : (evE F (.tup ts) σ h).W E Q = (evA F ts σ h).W E fun ds h1 => ds.length ≤ lim ∧ Q (.tup ds) h1 := by
  simp only [evE, W_bind, W_guard, W_ok]
theorem W_lst {ts : TL} : (evE F (.lst ts) σ h).W E Q = (evA F ts σ h).W E fun ds h1 => ds.length ≤ lim ∧ Q (.ref h1.length) (h1 ++ [.lst ds]) := by
  simp only [evE, W_bind, W_guard, W_ok]
theorem W_dic {ks : List L2.Key} {ts : TL} : (evE F (.dic ks ts) σ h).W E Q = (evA F ts σ h).W E fun ds h1 => (ks.length = ds.length ∧ ks.Nodup ∧ ks.length ≤ 15) ∧ Q (.ref h1.length) (h1 ++ [.dic (ks.zip ds)]) := by
  simp only [evE, W_bind, W_guard, W_ok]
theorem W_ix {a b : T} : (evE F (.ix a b) σ h).W E Q = (evE F a σ h).W E fun x h1 => (evE F b σ h1).W E fun y h2 => (evIx x y h2).W E Q := by
  simp only [evE, W_bind]
theorem W_sl {a : T} {lo hi : TO} : (evE F (.sl a lo hi) σ h).W E Q = (evE F a σ h).W E fun x h1 => (evO F lo σ h1).W E fun l h2 => (evO F hi σ h2).W E fun u h3 => (evSl x l u h3).W E Q := by
  simp only [evE, W_bind]
theorem W_fn {f : Nat} {as : TL} : (evE F (.call f as) σ h).W E Q = (evA F as σ h).W E fun ds h1 => (F f ds h1).W E Q := by
  simp only [evE, W_bind]
theorem W_bi {b : Bi} {as : TL} : (evE F (.bi b as) σ h).W E Q = (evA F as σ h).W E fun ds h1 => (evBi b ds h1).W E Q := by
  simp only [evE, W_bind]
theorem W_me {m : Me} {o : T} {as : TL} : (evE F (.me m o as) σ h).W E Q = (evE F o σ h).W E fun x h1 => okMe m x h1 = true ∧ (evA F as σ h1).W E fun ds h2 => (evMe m x ds h2).W E Q := by
  simp only [evE, W_bind, W_guard]
theorem W_isi {a : T} {c : Ty} : (evE F (.isi a c) σ h).W E Q = (evE F a σ h).W E fun x h1 => ∃ b, isiD h1 x c = some b ∧ Q (.bl b) h1 := by
  simp only [evE, W_bind, W_okb]
theorem W_lc {elt : T} {tg : Tg} {own : List Nat} {it : It} {c : TO} : (evE F (.lc elt tg own it c) σ h).W E Q = (evIt F it σ h).W E fun p h1 =>
    ∃ r h2, lcItems p.1 p.2 (fun d => evTg tg d (wipeD σ own)) (fun σ' h' => evC F c σ' h') (fun σ' h' => evE F elt σ' h') p.1 h1 = .ok r h2 ∧ r.length ≤ lim ∧ Q (.ref h2.length) (h2 ++ [.lst r]) := by
  simp only [evE, W_bind]
  congr 1; funext p h1
  exact propext W_lcM
theorem W_a0 {Q : List D → Hd → Prop} : (evA F .nil σ h).W E Q = Q [] h := by simp only [evE, evA, evO, evC, W_ok]
theorem W_a1 {t : T} {r : TL} {Q : List D → Hd → Prop} : (evA F (.cons t r) σ h).W E Q = (evE F t σ h).W E fun x h1 => (evA F r σ h1).W E fun xs h2 => Q (x :: xs) h2 := by
  simp only [evA, W_bind, W_ok]
theorem W_o0 {Q : Option Int → Hd → Prop} : (evO F .no σ h).W E Q = Q none h := by simp only [evE, evA, evO, evC, W_ok]
theorem W_o1 {t : T} {Q : Option Int → Hd → Prop} : (evO F (.yes t) σ h).W E Q = (evE F t σ h).W E fun x h1 => ∃ i, x = .int i ∧ Q (some i) h1 := by
  simp only [evO, W_bind]
  congr 1; funext x h1
  cases x <;> simp [W_ok, W_bad, W_exc]
theorem W_c0 {Q : Bool → Hd → Prop} : (evC F .no σ h).W E Q = Q true h := by simp only [evE, evA, evO, evC, W_ok]
theorem W_c1 {t : T} {Q : Bool → Hd → Prop} : (evC F (.yes t) σ h).W E Q = (evT F t σ h).W E Q := by simp only [evE, evA, evO, evC, W_ok]
theorem W_iof {t : T} {Q : List D × Option Nat → Hd → Prop} : (evIt F (.of t) σ h).W E Q = (evE F t σ h).W E fun x h1 => ∃ p, itemsOf h1 x = some p ∧ Q p h1 := by
  simp only [evIt, W_bind]
  congr 1; funext x h1
  cases itemsOf h1 x <;> simp [W_ok, W_bad, W_exc]
theorem W_ir1 {a : T} {Q : List D × Option Nat → Hd → Prop} : (evIt F (.rng1 a) σ h).W E Q = (evE F a σ h).W E fun x h1 => ∃ j, x = .int j ∧ (-(2 ^ 62) ≤ j ∧ j < 2 ^ 62) ∧ Q (rngL 0 j.toNat, none) h1 := by
  simp only [evIt, W_bind]
  congr 1; funext x h1
  cases x with
  | int j =>
    dsimp only
    rw [W_guard]
    simp [W_ok]
  | _ => simp [W_ok, W_bad, W_exc]
theorem W_ir2 {a b : T} {Q : List D × Option Nat → Hd → Prop} : (evIt F (.rng2 a b) σ h).W E Q = (evE F a σ h).W E fun x h1 => (evE F b σ h1).W E fun y h2 => ∃ i j, x = .int i ∧ y = .int j ∧ (-(2 ^ 62) ≤ i ∧ i < 2 ^ 62 ∧ -(2 ^ 62) ≤ j ∧ j < 2 ^ 62) ∧ Q (rngL i (j - i).toNat, none) h2 := by
  simp only [evIt, W_bind]
  congr 1; funext x h1; congr 1; funext y h2
  cases x with
  | int i =>
    cases y with
    | int j =>
      dsimp only
      rw [W_guard]
      simp [W_ok]
    | _ => simp [W_ok, W_bad, W_exc]
  | _ => simp [W_ok, W_bad, W_exc]
/-! tests -/
theorem W_truR {r : Res D} {Q : Bool → Hd → Prop} : (truR r).W E Q = r.W E fun d h1 => ∃ b, truD h1 d = some b ∧ Q b h1 := by
  unfold truR
  rw [W_bind]
  congr 1; funext d h1
  cases truD h1 d <;> simp [W_ok, W_bad, W_exc]
theorem W_blR {r : Res D} {Q : Bool → Hd → Prop} : (blR r).W E Q = r.W E fun d h1 => ∃ b, d = .bl b ∧ Q b h1 := by
  unfold blR
  rw [W_bind]
  congr 1; funext d h1
  cases d <;> simp [W_ok, W_bad, W_exc]
variable {QB : Bool → Hd → Prop}
theorem T_and {a b : T} : (evT F (.and a b) σ h).W E QB = (evT F a σ h).W E fun k h1 => (k = true → (evT F b σ h1).W E QB) ∧ (k = false → QB false h1) := by
  simp only [evT, W_bind]
  congr 1; funext k h1
  cases k <;> simp [W_ok, W_bad, W_exc]
theorem T_or {a b : T} : (evT F (.or a b) σ h).W E QB = (evT F a σ h).W E fun k h1 => (k = true → QB true h1) ∧ (k = false → (evT F b σ h1).W E QB) := by
  simp only [evT, W_bind]
  congr 1; funext k h1
  cases k <;> simp [W_ok, W_bad, W_exc]
theorem T_not {a : T} : (evT F (.not a) σ h).W E QB = (evT F a σ h).W E fun k h1 => QB (!k) h1 := by
  simp only [evT, W_bind, W_ok]
theorem T_var {i : Nat} : (evT F (.var i) σ h).W E QB = ∃ d b, σ[i]? = some (some d) ∧ truD h d = some b ∧ QB b h := by
  have e : evT F (.var i) σ h = truR (evE F (.var i) σ h) := by simp only [evT, evE]
  rw [e, W_truR, W_var]
  simp only [exists_and_left]
theorem T_cst {d : D} : (evT F (.cst d) σ h).W E QB = ∃ b, truD h d = some b ∧ QB b h := by
  simp only [evT, W_truR, W_ok]
theorem T_cmp {op : CmpOp} {a b : T} : (evT F (.cmp op a b) σ h).W E QB = (evE F a σ h).W E fun x h1 => (evE F b σ h1).W E fun y h2 => (evCmp op x y h2).W E fun d h3 => ∃ b, d = .bl b ∧ QB b h3 := by
  simp only [evT, W_blR, W_bind]
theorem T_chn {o1 o2 : CmpOp} {a b c : T} : (evT F (.chn o1 o2 a b c) σ h).W E QB = (evE F (.chn o1 o2 a b c) σ h).W E fun d h3 => ∃ b, d = .bl b ∧ QB b h3 := by
  have e : evT F (.chn o1 o2 a b c) σ h = blR (evE F (.chn o1 o2 a b c) σ h) := by simp only [evT, evE]
  rw [e, W_blR]
theorem T_fn {f : Nat} {as : TL} : (evT F (.call f as) σ h).W E QB = (evA F as σ h).W E fun ds h1 => (F f ds h1).W E fun d h3 => ∃ b, truD h3 d = some b ∧ QB b h3 := by
  simp only [evT, W_truR, W_bind]
theorem T_bi {b : Bi} {as : TL} : (evT F (.bi b as) σ h).W E QB = (evA F as σ h).W E fun ds h1 => (evBi b ds h1).W E fun d h3 => ∃ b, truD h3 d = some b ∧ QB b h3 := by
  simp only [evT, W_truR, W_bind]
theorem T_isi {a : T} {c : Ty} : (evT F (.isi a c) σ h).W E QB = (evE F a σ h).W E fun x h1 => ∃ b, isiD h1 x c = some b ∧ QB b h1 := by
  simp only [evT, W_truR, W_bind, W_okb]
  congr 1; funext x h1
  simp [truD]
/-! statements -/
theorem S_asg {i : Nat} {e : T} : (evS F wf (.asg i e) σ h).W P = (evE F e σ h).W (fun e h => P.ex e σ h) fun x h1 => P.nx (σ.set i (some x)) h1 := by
  simp only [evS, W_st, W_nx]
theorem S_unp {is : List Nat} {e : T} : (evS F wf (.unp is e) σ h).W P = (evE F e σ h).W (fun e h => P.ex e σ h) fun x h1 => ∃ l σ1, x = .tup l ∧ setN σ is l = some σ1 ∧ P.nx σ1 h1 := by
  simp only [evS, W_st]
  congr 1; funext x h1
  cases x with
  | tup l => dsimp only; cases e : setN σ is l <;> simp [W_nx, W_rt, W_badS, e]
  | _ => simp [W_nx, W_rt, W_badS]
theorem S_set {o i e : T} : (evS F wf (.setI o i e) σ h).W P = (evE F e σ h).W (fun e h => P.ex e σ h) fun x h1 => (evE F o σ h1).W (fun e h => P.ex e σ h) fun p h2 => (evE F i σ h2).W (fun e h => P.ex e σ h) fun j h3 =>
    ∃ k z l n, p = .ref k ∧ j = .int z ∧ h3[k]? = some (.lst l) ∧ L2.ixN l.length z = some n ∧ P.nx σ (h3.set k (.lst (l.set n x))) := by
  simp only [evS, W_st]
  congr 1; funext x h1; congr 1; funext p h2; congr 1; funext j h3
  cases p with
  | ref k =>
    cases j with
    | int z =>
      dsimp only
      split
      · rename_i l el
        simp only [D.ref.injEq, D.int.injEq, exists_and_left, exists_eq_left', el, Option.some.injEq, Ob.lst.injEq]
        cases e : L2.ixN l.length z <;> simp [W_nx, W_rt, W_badS]
      · rename_i z1
        simp only [W_badS, eq_iff_iff, false_iff]
        rintro ⟨k', z', l, n, e1, e2, e3, _⟩
        cases e1
        exact z1 l e3
    | _ => simp [W_nx, W_rt, W_badS]
  | _ => simp [W_nx, W_rt, W_badS]
theorem S_augA {i : Nat} {e : T} : (evS F wf (.aug i .Add e) σ h).W P = ∃ a, σ[i]? = some (some (.int a)) ∧ (evE F e σ h).W (fun e h => P.ex e σ h) fun x h1 => ∃ b, x = .int b ∧ P.nx (σ.set i (some (.int (a + b)))) h1 := by
  simp only [evS]
  split
  · rename_i a e1
    rw [W_st]
    simp only [e1, Option.some.injEq, D.int.injEq, exists_eq_left']
    congr 1; funext x h1
    cases x <;> simp [W_nx, W_rt, W_badS]
  · rename_i z
    simp only [W_badS, eq_iff_iff, false_iff]
    rintro ⟨a, e1, _⟩
    exact z a e1
theorem S_augS {i : Nat} {e : T} : (evS F wf (.aug i .Sub e) σ h).W P = ∃ a, σ[i]? = some (some (.int a)) ∧ (evE F e σ h).W (fun e h => P.ex e σ h) fun x h1 => ∃ b, x = .int b ∧ P.nx (σ.set i (some (.int (a - b)))) h1 := by
  simp only [evS]
  split
  · rename_i a e1
    rw [W_st]
    simp only [e1, Option.some.injEq, D.int.injEq, exists_eq_left']
    congr 1; funext x h1
    cases x <;> simp [W_nx, W_rt, W_badS]
  · rename_i z
    simp only [W_badS, eq_iff_iff, false_iff]
    rintro ⟨a, e1, _⟩
    exact z a e1
theorem S_ex {e : T} : (evS F wf (.ex e) σ h).W P = (evE F e σ h).W (fun e h => P.ex e σ h) fun _ h1 => P.nx σ h1 := by
  simp only [evS, W_st, W_nx]
theorem S_ret {e : T} : (evS F wf (.ret e) σ h).W P = (evE F e σ h).W (fun e h => P.ex e σ h) fun x h1 => P.rt x h1 := by
  simp only [evS, W_st, W_rt]
theorem S_retN : (evS F wf .retN σ h).W P = P.rt .non h := by simp only [evS, W_nx, W_rt, W_bk, W_ct, W_ex]
theorem S_ife {c : T} {a b : SL} : (evS F wf (.ife c a b) σ h).W P = (evT F c σ h).W (fun e h => P.ex e σ h) fun k h1 => (k = true → (evB F wf a σ h1).W P) ∧ (k = false → (evB F wf b σ h1).W P) := by
  simp only [evS, W_st]
  congr 1; funext k h1
  cases k <;> simp
theorem S_whl {c : T} {b : SL} : (evS F wf (.whl c b) σ h).W P = (whileF (fun σ' h' => evT F c σ' h') (fun σ' h' => evB F wf b σ' h') wf σ h).W P := by
  simp only [evS]
theorem S_fr {tg : Tg} {it : It} {b : SL} : (evS F wf (.fr tg it b) σ h).W P = (evIt F it σ h).W (fun e h => P.ex e σ h) fun p h1 => (forItems p.1 p.2 (fun d σ' => evTg tg d σ') (fun σ' h' => evB F wf b σ' h') p.1 σ h1).W P := by
  simp only [evS, W_st]
theorem S_pas : (evS F wf .pas σ h).W P = P.nx σ h := by simp only [evS, W_nx, W_rt, W_bk, W_ct, W_ex]
theorem S_brk : (evS F wf .brk σ h).W P = P.bk σ h := by simp only [evS, W_nx, W_rt, W_bk, W_ct, W_ex]
theorem S_cnt : (evS F wf .cnt σ h).W P = P.ct σ h := by simp only [evS, W_nx, W_rt, W_bk, W_ct, W_ex]
theorem S_rse {c : Nat} : (evS F wf (.rse c) σ h).W P = P.ex c σ h := by simp only [evS, W_nx, W_rt, W_bk, W_ct, W_ex]
/-! operations -/
theorem b_add {i j : Int} : (evBin .Add (.int i) (.int j) h).W E Q = Q (.int (i + j)) h := W_ok
theorem b_sub {i j : Int} : (evBin .Sub (.int i) (.int j) h).W E Q = Q (.int (i - j)) h := W_ok
theorem b_mul {i j : Int} : (evBin .Mult (.int i) (.int j) h).W E Q = (CMul i j ∧ Q (.int (i * j)) h) := by simp only [evBin, W_guard, W_ok]
theorem b_div {i j : Int} : (evBin .FloorDiv (.int i) (.int j) h).W E Q = (CDivN i j ∧ Q (.int (i.fdiv j)) h) := by simp only [evBin, W_guard, W_ok]
theorem b_mod {i j : Int} : (evBin .Mod (.int i) (.int j) h).W E Q = (j ≠ 0 ∧ Q (.int (i.fmod j)) h) := by simp only [evBin, W_guard, W_ok]
theorem b_pow {i j : Int} : (evBin .Pow (.int i) (.int j) h).W E Q = (CPow i j ∧ Q (.int (i ^ j.toNat)) h) := by simp only [evBin, W_guard, W_ok]
theorem b_str {a b : Str} : (evBin .Add (.str a) (.str b) h).W E Q = (a.length + b.length ≤ lim ∧ Q (.str (a ++ b)) h) := by simp only [evBin, W_guard, W_ok]
theorem b_tup {a b : List D} : (evBin .Add (.tup a) (.tup b) h).W E Q = (a.length + b.length ≤ lim ∧ Q (.tup (a ++ b)) h) := by simp only [evBin, W_guard, W_ok]
theorem b_ref {a b : Nat} {xs ys : List D} (e1 : h[a]? = some (.lst xs)) (e2 : h[b]? = some (.lst ys)) : (evBin .Add (.ref a) (.ref b) h).W E Q = (xs.length + ys.length ≤ lim ∧ Q (.ref h.length) (h ++ [.lst (xs ++ ys)])) := by simp only [evBin, e1, e2, W_guard, W_ok]
theorem c_eq {x y : D} : (evCmp .Eq x y h).W E Q = ∃ b, eqD h x y = some b ∧ Q (.bl b) h := by simp only [evCmp, W_okb]
theorem c_ne {x y : D} : (evCmp .NotEq x y h).W E Q = ∃ b, eqD h x y = some b ∧ Q (.bl (!b)) h := by
  simp only [evCmp, W_okb]
  cases e : eqD h x y with
  | none => simp
  | some b => cases b <;> simp
theorem c_in {x y : D} : (evCmp .In x y h).W E Q = ∃ b, inD h x y = some b ∧ Q (.bl b) h := by simp only [evCmp, W_okb]
theorem c_ni {x y : D} : (evCmp .NotIn x y h).W E Q = ∃ b, inD h x y = some b ∧ Q (.bl (!b)) h := by
  simp only [evCmp, W_okb]
  cases e : inD h x y with
  | none => simp
  | some b => cases b <;> simp
theorem c_lt {i j : Int} : (evCmp .Lt (.int i) (.int j) h).W E Q = Q (.bl (decide (i < j))) h := W_ok
theorem c_le {i j : Int} : (evCmp .LtE (.int i) (.int j) h).W E Q = Q (.bl (decide (i ≤ j))) h := W_ok
theorem c_gt {i j : Int} : (evCmp .Gt (.int i) (.int j) h).W E Q = Q (.bl (decide (j < i))) h := W_ok
theorem c_ge {i j : Int} : (evCmp .GtE (.int i) (.int j) h).W E Q = Q (.bl (decide (j ≤ i))) h := W_ok
theorem c_ltS {i j : Str} : (evCmp .Lt (.str i) (.str j) h).W E Q = Q (.bl (decide (i.cps.toList < j.cps.toList))) h := W_ok
def isNon : D → Bool | .non => true | _ => false
theorem c_is {x : D} : (evCmp .Is x .non h).W E Q = Q (.bl (isNon x)) h := by cases x <;> exact W_ok
theorem c_isN {x : D} : (evCmp .IsNot x .non h).W E Q = Q (.bl (!isNon x)) h := by cases x <;> exact W_ok
theorem c_isB {a b : Bool} : (evCmp .Is (.bl a) (.bl b) h).W E Q = Q (.bl (decide (a = b))) h := W_ok
theorem q_int {i j : Int} : eqD h (.int i) (.int j) = some (decide (i = j)) := rfl
theorem q_str {i j : Str} : eqD h (.str i) (.str j) = some (decide (i = j)) := rfl
theorem q_bl {i j : Bool} : eqD h (.bl i) (.bl j) = some (decide (i = j)) := rfl
theorem q_is {i : Int} {j : Str} : eqD h (.int i) (.str j) = some false := rfl
theorem q_si {i : Int} {j : Str} : eqD h (.str j) (.int i) = some false := rfl
theorem x_tup {l : List D} {i : Int} : (evIx (.tup l) (.int i) h).W E Q = ∃ d, atI l i = some d ∧ Q d h := by simp only [evIx, W_okd]
theorem x_fl {l : List D} {i : Int} : (evIx (.fl l) (.int i) h).W E Q = ∃ d, atI l i = some d ∧ Q d h := by simp only [evIx, W_okd]
theorem x_str {s : Str} {i : Int} : (evIx (.str s) (.int i) h).W E Q = (s.length ≤ lim ∧ ∃ c, atI s.cps.toList i = some c ∧ Q (.str ⟨#[c]⟩) h) := by
  simp only [evIx, W_guard, W_okd]
  cases atI s.cps.toList i <;> simp
theorem x_ref {k : Nat} {l : List D} {i : Int} (e : h[k]? = some (.lst l)) : (evIx (.ref k) (.int i) h).W E Q = ∃ d, atI l i = some d ∧ Q d h := by simp only [evIx, e, W_okd]
theorem x_dic {k : Nat} {l : List (L2.Key × D)} {i : Int} (e : h[k]? = some (.dic l)) : (evIx (.ref k) (.int i) h).W E Q = ∃ d, lookK l (.inl i) = some d ∧ Q d h := by simp only [evIx, e, toKey, W_okd]
theorem x_dicS {k : Nat} {l : List (L2.Key × D)} {i : Str} (e : h[k]? = some (.dic l)) : (evIx (.ref k) (.str i) h).W E Q = ∃ d, lookK l (.inr i) = some d ∧ Q d h := by simp only [evIx, e, toKey, W_okd]
theorem s_tup {l : List D} {lo hi : Option Int} : (evSl (.tup l) lo hi h).W E Q = Q (.tup (cutL l lo hi)) h := W_ok
theorem s_str {s : Str} {lo hi : Option Int} : (evSl (.str s) lo hi h).W E Q = (s.length ≤ lim ∧ Q (.str (cutS s lo hi)) h) := by simp only [evSl, W_guard, W_ok]
theorem s_fl {l : List D} {lo hi : Option Int} : (evSl (.fl l) lo hi h).W E Q = Q (.ref h.length) (h ++ [.lst (cutL l lo hi)]) := W_ok
theorem s_ref {k : Nat} {l : List D} {lo hi : Option Int} (e : h[k]? = some (.lst l)) : (evSl (.ref k) lo hi h).W E Q = Q (.ref h.length) (h ++ [.lst (cutL l lo hi)]) := by simp only [evSl, e, W_ok]
theorem i_len {x : D} : (evBi .len [x] h).W E Q = ∃ n, lenD h x = some n ∧ Q (.int (n : Nat)) h := by
  simp only [evBi, W_okd]
  cases lenD h x <;> simp
theorem i_int {i : Int} : (evBi .int [.int i] h).W E Q = Q (.int i) h := W_ok
theorem i_intB {b : Bool} : (evBi .int [.bl b] h).W E Q = Q (.int (if b then 1 else 0)) h := W_ok
theorem i_intS {s : Str} {n : Int} (e : PySem.intText? s = some n) : (evBi .int [.str s] h).W E Q = (s.length ≤ 640 ∧ Q (.int n) h) := by simp only [evBi, e, W_guard, W_ok]
theorem i_abs {i : Int} : (evBi .abs [.int i] h).W E Q = Q (.int (if i < 0 then -i else i)) h := W_ok
theorem i_str {i : Int} : (evBi .str [.int i] h).W E Q = (i.natAbs.log2 < 1920 ∧ Q (.str (toString i)) h) := by simp only [evBi, W_guard, W_ok]
theorem i_min {i j : Int} : (evBi .min [.int i, .int j] h).W E Q = Q (.int (if j < i then j else i)) h := W_ok
theorem i_max {i j : Int} : (evBi .max [.int i, .int j] h).W E Q = Q (.int (if j > i then j else i)) h := W_ok
theorem i_sum {x : D} : (evBi .sum [x] h).W E Q = ∃ l ns, listOf h x = some l ∧ intsOf l = some ns ∧ Q (.int ns.sum) h := by
  simp only [evBi, W_okd]
  cases listOf h x with
  | none => simp
  | some l => cases e : intsOf l <;> simp [e]
theorem i_all {x : D} : (evBi .all [x] h).W E Q = ∃ l ns, listOf h x = some l ∧ blsOf l = some ns ∧ Q (.bl (ns.all id)) h := by
  simp only [evBi, W_okd]
  cases listOf h x with
  | none => simp
  | some l => cases e : blsOf l <;> simp [e]
theorem i_any {x : D} : (evBi .any [x] h).W E Q = ∃ l ns, listOf h x = some l ∧ blsOf l = some ns ∧ Q (.bl (ns.any id)) h := by
  simp only [evBi, W_okd]
  cases listOf h x with
  | none => simp
  | some l => cases e : blsOf l <;> simp [e]
theorem i_list {x : D} : (evBi .list [x] h).W E Q = ∃ l, seqOf h x = some l ∧ Q (.ref h.length) (h ++ [.lst l]) := by
  simp only [evBi]
  cases seqOf h x <;> simp [W_ok, W_bad, W_exc]
theorem i_tuple {x : D} : (evBi .tuple [x] h).W E Q = ∃ l, seqOf h x = some l ∧ Q (.tup l) h := by
  simp only [evBi]
  cases seqOf h x <;> simp [W_ok, W_bad, W_exc]
theorem n_str {s : Str} : (∃ n, lenD h (.str s) = some n ∧ Q (.int (n : Nat)) h) = (s.length ≤ lim ∧ Q (.int (s.length : Nat)) h) := by
  simp only [lenD]
  split <;> simp [*]
theorem n_tup {l : List D} : lenD h (.tup l) = some l.length := rfl
theorem n_fl {l : List D} : lenD h (.fl l) = some l.length := rfl
theorem n_ref {k : Nat} {l : List D} (e : h[k]? = some (.lst l)) : lenD h (.ref k) = some l.length := by simp only [lenD, e]
theorem n_dic {k : Nat} {l : List (L2.Key × D)} (e : h[k]? = some (.dic l)) : lenD h (.ref k) = some l.length := by simp only [lenD, e]
theorem l_fl {l : List D} : listOf h (.fl l) = some l := rfl
theorem l_ref {k : Nat} {l : List D} (e : h[k]? = some (.lst l)) : listOf h (.ref k) = some l := by simp only [listOf, e]
theorem e_tup {l : List D} : seqOf h (.tup l) = some l := rfl
theorem e_fl {l : List D} : seqOf h (.fl l) = some l := rfl
theorem e_ref {k : Nat} {l : List D} (e : h[k]? = some (.lst l)) : seqOf h (.ref k) = some l := by simp only [seqOf, e]
theorem it_tup {l : List D} : itemsOf h (.tup l) = some (l, none) := rfl
theorem it_fl {l : List D} : itemsOf h (.fl l) = some (l, none) := rfl
theorem it_str {s : Str} : itemsOf h (.str s) = some (s.cps.toList.map fun c => D.str ⟨#[c]⟩, none) := rfl
theorem it_ref {k : Nat} {l : List D} (e : h[k]? = some (.lst l)) : itemsOf h (.ref k) = some (l, some k) := by simp only [itemsOf, e]
theorem k_list {m : Me} {k : Nat} {l : List D} (e : h[k]? = some (.lst l)) : (okMe .append (.ref k) h = true) = True ∧ (okMe .extend (.ref k) h = true) = True ∧ (okMe .pop (.ref k) h = true) = True := by simp only [okMe, e, and_self]
theorem k_app {k : Nat} {l : List D} (e : h[k]? = some (.lst l)) : okMe .append (.ref k) h = true := by simp only [okMe, e]
theorem k_ext {k : Nat} {l : List D} (e : h[k]? = some (.lst l)) : okMe .extend (.ref k) h = true := by simp only [okMe, e]
theorem k_pop {k : Nat} {l : List D} (e : h[k]? = some (.lst l)) : okMe .pop (.ref k) h = true := by simp only [okMe, e]
theorem k_split {s : Str} : okMe .split (.str s) h = true := rfl
theorem k_part {s : Str} : okMe .partition (.str s) h = true := rfl
theorem k_join {s : Str} : okMe .join (.str s) h = true := rfl
theorem m_app {k : Nat} {l : List D} {x : D} (e : h[k]? = some (.lst l)) : (evMe .append (.ref k) [x] h).W E Q = (l.length < lim ∧ Q .non (h.set k (.lst (l ++ [x])))) := by simp only [evMe, e, W_guard, W_ok]
theorem m_ext {k j : Nat} {l r : List D} (e : h[k]? = some (.lst l)) (e2 : h[j]? = some (.lst r)) : (evMe .extend (.ref k) [.ref j] h).W E Q = (l.length + r.length ≤ lim ∧ Q .non (h.set k (.lst (l ++ r)))) := by simp only [evMe, e, e2, W_guard, W_ok]
theorem m_pop {k : Nat} {l : List D} (e : h[k]? = some (.lst l)) : (evMe .pop (.ref k) [] h).W E Q = ∃ y, l[l.length - 1]? = some y ∧ Q y (h.set k (.lst l.dropLast)) := by
  simp only [evMe, e]
  cases l[l.length - 1]? <;> simp [W_ok, W_bad, W_exc]
theorem m_split {a b : Str} : (evMe .split (.str a) [.str b] h).W E Q = (((b.length == 0) = false ∧ a.length + 2 ≤ lim) ∧ Q (.ref h.length) (h ++ [.lst ((Txt.split a b).map D.str)])) := by simp only [evMe, W_guard, W_ok]
theorem m_part {a b : Str} : (evMe .partition (.str a) [.str b] h).W E Q = (((b.length == 0) = false ∧ a.length ≤ lim) ∧ Q (.tup [.str (Txt.partition a b).1, .str (Txt.partition a b).2.1, .str (Txt.partition a b).2.2]) h) := by simp only [evMe, W_guard, W_ok]
theorem m_join {a : Str} {x : D} : (evMe .join (.str a) [x] h).W E Q = ∃ l ys, seqOf h x = some l ∧ strsOf l = some ys ∧ (ys.map (·.length)).sum + ys.length * a.length ≤ lim ∧ Q (.str (Txt.join a ys)) h := by
  simp only [evMe]
  cases e : seqOf h x with
  | none => simp [W_ok, W_bad, W_exc]
  | some l =>
    cases e2 : strsOf l with
    | none => simp [W_ok, W_bad, W_exc, e2]
    | some ys => simp [e2, W_guard, W_ok]
theorem k_cntT {l : List D} : okMe .count (.tup l) h = true := rfl
theorem k_cntS {s : Str} : okMe .count (.str s) h = true := rfl
theorem k_sw {s : Str} : okMe .startswith (.str s) h = true := rfl
theorem k_up {s : Str} : okMe .upper (.str s) h = true := rfl
theorem m_cntT {l : List D} {x : D} : (evMe .count (.tup l) [x] h).W E Q = ∃ n, cntD l x = some n ∧ Q (.int (n : Nat)) h := by
  simp only [evMe]
  cases cntD l x <;> simp [W_ok, W_bad]
theorem m_cntS {a b : Str} : (evMe .count (.str a) [.str b] h).W E Q = Q (.int (Txt.count a b)) h := W_ok
theorem m_sw {a b : Str} : (evMe .startswith (.str a) [.str b] h).W E Q = Q (.bl (Txt.startswith a b)) h := W_ok
theorem m_up {a : Str} : (evMe .upper (.str a) [] h).W E Q = (a.length ≤ lim ∧ Q (.str (Txt.upper a)) h) := by simp only [evMe, W_guard, W_ok]
theorem i_rev {x : D} : (evBi .rev [x] h).W E Q = ∃ l, listOf h x = some l ∧ Q (.ref h.length) (h ++ [.lst l.reverse]) := by
  simp only [evBi]
  cases listOf h x <;> simp [W_ok, W_bad]
theorem y_str {s : Str} {c : Ty} : isiD h (.str s) c = some (c == .str) := rfl
theorem y_int {i : Int} {c : Ty} : isiD h (.int i) c = some (c == .int) := rfl
theorem y_bl {i : Bool} {c : Ty} : isiD h (.bl i) c = some (c == .bool || c == .int) := rfl
theorem y_non {c : Ty} : isiD h .non c = some false := rfl
theorem y_tup {l : List D} {c : Ty} : isiD h (.tup l) c = some (c == .tuple) := rfl
theorem y_fl {l : List D} {c : Ty} : isiD h (.fl l) c = some (c == .list) := rfl
theorem y_ref {k : Nat} {l : List D} {c : Ty} (e : h[k]? = some (.lst l)) : isiD h (.ref k) c = some (c == .list) := by simp only [isiD, e]
theorem y_dic {k : Nat} {l : List (L2.Key × D)} {c : Ty} (e : h[k]? = some (.dic l)) : isiD h (.ref k) c = some (c == .dict) := by simp only [isiD, e]
theorem t_bl {b : Bool} : truD h (.bl b) = some b := rfl
theorem t_int {i : Int} : truD h (.int i) = some (i != 0) := rfl
theorem t_non : truD h .non = some false := rfl
theorem t_tup {l : List D} : truD h (.tup l) = some (!l.isEmpty) := rfl
theorem t_fl {l : List D} : truD h (.fl l) = some (!l.isEmpty) := rfl
theorem t_ref {k : Nat} {l : List D} (e : h[k]? = some (.lst l)) : truD h (.ref k) = some (!l.isEmpty) := by simp only [truD, e]
theorem g_nm {i : Nat} {d : D} : evTg (.nm i) d σ = some (σ.set i (some d)) := rfl
theorem g_tp {is : List Nat} {l : List D} : evTg (.tp is) (.tup l) σ = setN σ is l := rfl
theorem setN0 : setN σ [] [] = some σ := rfl
theorem setN1 {i : Nat} {is : List Nat} {d : D} {ds : List D} : setN σ (i :: is) (d :: ds) = setN (σ.set i (some d)) is ds := rfl
theorem wipe0 : wipeD σ [] = σ := rfl
theorem wipe1 {i : Nat} {is : List Nat} : wipeD σ (i :: is) = (wipeD σ is).set i none := rfl
theorem stay0 {l : List D} : stays none l h = True := rfl
theorem stay1 {k : Nat} {l : List D} : stays (some k) l h = (h[k]? = some (.lst l)) := rfl
theorem ty_ne {a b : Ty} : (a == b) = decide (a = b) := rfl
end
/-! places -/
theorem at_0 {α : Type} {xs : List α} : atI xs 0 = xs[0]? := by
  unfold atI ixN
  cases xs <;> simp
theorem at_lit {α : Type} {xs : List α} {k : Nat} : atI xs (k : Int) = xs[k]? := by
  unfold atI ixN
  by_cases hk : k < xs.length
  · simp [hk]
  · rw [if_pos (by omega), if_neg (by omega), List.getElem?_eq_none (by omega)]
    rfl
theorem at_1 {α : Type} {xs : List α} : atI xs 1 = xs[1]? := at_lit (k := 1)
theorem at_2 {α : Type} {xs : List α} : atI xs 2 = xs[2]? := at_lit (k := 2)
theorem at_3 {α : Type} {xs : List α} : atI xs 3 = xs[3]? := at_lit (k := 3)
theorem at_4 {α : Type} {xs : List α} : atI xs 4 = xs[4]? := at_lit (k := 4)
theorem at_5 {α : Type} {xs : List α} : atI xs 5 = xs[5]? := at_lit (k := 5)
theorem at_last {α : Type} {xs : List α} : atI xs (-1) = xs[xs.length - 1]? := by
  unfold atI ixN
  cases xs with
  | nil => simp
  | cons x r =>
    rw [if_neg (by omega), if_pos (by simp [List.length_cons]; omega)]
    simp only [Option.bind_some]
    congr 1
    simp [List.length_cons]; omega
theorem ix_lit {n k : Nat} : ixN n (k : Int) = if k < n then some k else none := by
  unfold ixN
  rw [if_pos (by omega)]
  by_cases hk : k < n
  · rw [if_pos (by omega), if_pos hk]; simp
  · rw [if_neg (by omega), if_neg hk]
theorem ix_0 {n : Nat} : ixN n 0 = if 0 < n then some 0 else none := ix_lit (k := 0)
theorem ix_1 {n : Nat} : ixN n 1 = if 1 < n then some 1 else none := ix_lit (k := 1)
theorem ix_2 {n : Nat} : ixN n 2 = if 2 < n then some 2 else none := ix_lit (k := 2)
theorem ix_last {n : Nat} (hn : 0 < n) : ixN n (-1) = some (n - 1) := by
  unfold ixN
  rw [if_neg (by omega), if_pos (by omega)]
  congr 1
  omega
theorem atI_of {α : Type} {xs : List α} {i : Int} (h0 : 0 ≤ i) (h1 : i < xs.length) : ∃ x, atI xs i = some x ∧ xs[i.toNat]? = some x := by
  have h2 : i.toNat < xs.length := by omega
  refine ⟨xs[i.toNat], ?_, List.getElem?_eq_getElem h2⟩
  simp only [atI, ixN, if_pos h0, if_pos h1, Option.bind_some]
  exact List.getElem?_eq_getElem h2
/-! slices -/
theorem cut_to {α : Type} {xs : List α} {k : Nat} : cutL xs none (some (k : Int)) = xs.take k := by
  unfold cutL
  rw [HT.sIx_none, HT.sIx_nat]
  simp [List.take_eq_take_iff]
theorem cut_from {α : Type} {xs : List α} {k : Nat} : cutL xs (some (k : Int)) none = xs.drop k := by
  unfold cutL
  rw [HT.sIx_none, HT.sIx_nat]
  by_cases hk : k ≤ xs.length
  · rw [Nat.min_eq_left hk, List.take_of_length_le (by simp)]
  · rw [Nat.min_eq_right (by omega), List.drop_eq_nil_of_le (by omega), List.drop_eq_nil_of_le (by omega)]
    simp
theorem cut_mid {α : Type} {xs : List α} {k j : Nat} : cutL xs (some (k : Int)) (some (j : Int)) = (xs.drop k).take (j - k) := by
  unfold cutL
  rw [HT.sIx_nat, HT.sIx_nat]
  by_cases hk : k ≤ xs.length
  · rw [Nat.min_eq_left hk]
    by_cases hj : j ≤ xs.length
    · rw [Nat.min_eq_left hj]
    · rw [Nat.min_eq_right (by omega), List.take_of_length_le (by simp), List.take_of_length_le (by simp; omega)]
  · rw [Nat.min_eq_right (by omega : xs.length ≤ k), List.drop_eq_nil_of_le (by omega), List.drop_eq_nil_of_le (by omega)]
    simp
theorem cut_init {α : Type} {xs : List α} : cutL xs none (some (-1)) = xs.dropLast := by
  unfold cutL
  rw [HT.sIx_none]
  have e : HT.sIx xs.length xs.length (some (-1)) = xs.length - 1 := by
    simp only [HT.sIx]
    rw [if_pos (by omega)]
    omega
  rw [e, List.drop_zero, List.dropLast_eq_take]
  rfl
end Eg
set_option maxHeartbeats 4000000
/-! Part 15: texts, ranges. -/
namespace Eg
open PySem L2 PyProof.Rows PySem.PyData PySem.Builtin.Str

/-- a text of at most n signs -/
structure Tx (s : Str) (n : Nat) : Prop where
  ok : strOk s = true
  le : s.length ≤ n
theorem Tx.mono {s : Str} {n m : Nat} (t : Tx s n) (h : n ≤ m) : Tx s m := ⟨t.ok, Nat.le_trans t.le h⟩
theorem ok_iff {s : Str} : strOk s = true ↔ ∀ c ∈ s.cps.toList, c < 0x110000 := by
  unfold strOk
  rw [Array.all_eq_true']
  simp
theorem len_app {a b : Str} : (a ++ b).length = a.length + b.length := Array.size_append
theorem Tx.app {a b : Str} {n m : Nat} (x : Tx a n) (y : Tx b m) : Tx (a ++ b) (n + m) := by
  refine ⟨ok_iff.mpr fun c hc => ?_, by rw [len_app]; exact Nat.add_le_add x.le y.le⟩
  rw [show (a ++ b).cps.toList = a.cps.toList ++ b.cps.toList from by show (a.cps ++ b.cps).toList = _; simp] at hc
  rcases List.mem_append.mp hc with z | z
  · exact ok_iff.mp x.ok c z
  · exact ok_iff.mp y.ok c z
theorem ok_lit (s : String) : strOk (Str.ofString s) = true := by
  refine ok_iff.mpr fun c hc => ?_
  rw [Str.ofString_eq_toList] at hc
  obtain ⟨d, _, rfl⟩ := List.mem_map.mp (show c ∈ s.toList.map Char.toNat by simpa using hc)
  have h := d.valid
  rcases h with h | h
  · show d.val.toNat < _
    omega
  · show d.val.toNat < _
    exact h.2
theorem len_lit (s : String) : (Str.ofString s).length = s.toList.length := by
  rw [Str.ofString_eq_toList]
  show (s.toList.map Char.toNat).toArray.size = _
  simp
theorem Tx.lit {s : String} {n : Nat} (h : s.toList.length ≤ n) : Tx s n := ⟨ok_lit s, by rw [len_lit]; exact h⟩
theorem Tx.num {m k : Nat} (hk : 1 ≤ k) (h : m < 10 ^ k) : Tx (Str.ofString (toString ((m : Nat) : Int))) k := by
  refine ⟨ok_lit _, ?_⟩
  show (Str.ofString (toString ((m : Nat) : Int))).cps.size ≤ k
  have e := PySem.W.KIN.signs_num m
  rw [← Array.length_toList, e, List.length_map]
  exact toDigits_le hk h
where toDigits_le {k n : Nat} (hk : 1 ≤ k) (hn : n < 10 ^ k) : (Nat.toDigits 10 n).length ≤ k := digits10_le hk hn
theorem Tx.one {c : Nat} (h : c < 0x110000) : Tx ⟨#[c]⟩ 1 := ⟨ok_iff.mpr (by simpa using h), Nat.le_refl _⟩
/-- a sign of a text -/
theorem pick {s : Str} {v : Int} (ok : strOk s = true) (h0 : 0 ≤ v) (h1 : v < s.length) : ∃ c, atI s.cps.toList v = some c ∧ Tx ⟨#[c]⟩ 1 := by
  obtain ⟨c, e1, e2⟩ := atI_of (xs := s.cps.toList) h0 (by rw [Array.length_toList]; exact h1)
  exact ⟨c, e1, Tx.one (ok_iff.mp ok c (List.mem_of_getElem? e2))⟩
theorem Tx.sub {s : Str} {n i j : Nat} (t : Tx s n) : Tx (strSub s i j) n := by
  refine ⟨ok_iff.mpr fun c hc => ?_, ?_⟩
  · refine ok_iff.mp t.ok c ?_
    have : (s.cps.extract i j).toList = (s.cps.toList.drop i).take (j - i) := by simp [Array.toList_extract, List.extract_eq_drop_take]
    have hc2 : c ∈ (s.cps.extract i j).toList := hc
    rw [this] at hc2
    exact List.mem_of_mem_drop (List.mem_of_mem_take hc2)
  · have := t.le
    show (s.cps.extract i j).size ≤ n
    have h2 : s.cps.size ≤ n := this
    rw [Array.size_extract]
    omega
/-- what stands ahead of the first cut -/
theorem split_head {a b : Str} {n : Nat} (t : Tx a n) : ∃ x, (Txt.split a b)[0]? = some x ∧ Tx x n := by
  unfold Txt.split
  split
  · exact ⟨a, rfl, t⟩
  · split
    · exact ⟨a, rfl, t⟩
    · unfold partsBetween
      cases h : occurrences a b 0 a.length (a.length + 1) with
      | nil => exact ⟨_, rfl, t.sub⟩
      | cons k r => exact ⟨_, rfl, t.sub⟩
/-! ranges -/
theorem rng_len {lo : Int} {n : Nat} : (rngL lo n).length = n := by simp [rngL]
theorem rng_get {lo : Int} {n i : Nat} {d : D} (e : (rngL lo n)[i]? = some d) : i < n ∧ d = .int (lo + i) := by
  have h := lt_of_get_l e
  rw [rng_len] at h
  refine ⟨h, ?_⟩
  simp [rngL, h] at e
  exact e.symm
where lt_of_get_l {α : Type} {l : List α} {i : Nat} {d : α} (e : l[i]? = some d) : i < l.length := (List.getElem?_eq_some_iff.mp e).1
theorem ints_map {ns : List Int} : intsOf (ns.map D.int) = some ns := by
  induction ns with
  | nil => rfl
  | cons n r ih => simp [intsOf, ih]
theorem strs_map {ns : List Str} : strsOf (ns.map D.str) = some ns := by
  induction ns with
  | nil => rfl
  | cons n r ih => simp [strsOf, ih]
theorem bls_map {ns : List Bool} : blsOf (ns.map D.bl) = some ns := by
  induction ns with
  | nil => rfl
  | cons n r ih => simp [blsOf, ih]
theorem log_small {i : Int} (h0 : 0 ≤ i) (h1 : i < 2 ^ 60) : i.natAbs.log2 < 1920 := by
  by_cases h : i.natAbs = 0
  · rw [h]; decide
  · rw [Nat.log2_lt h]
    have : i.natAbs < 2 ^ 60 := by omega
    exact Nat.lt_of_lt_of_le this (Nat.pow_le_pow_right (by decide) (by decide))
theorem Tx.numI {i : Int} {k : Nat} (hk : 1 ≤ k) (h0 : 0 ≤ i) (h : i < ((10 ^ k : Nat) : Int)) : Tx (Str.ofString (toString i)) k := by
  obtain ⟨m, rfl⟩ : ∃ m : Nat, i = m := ⟨i.toNat, by omega⟩
  exact Tx.num hk (by exact_mod_cast h)
theorem lim_app {a b : Str} {n m : Nat} (x : Tx a n) (y : Tx b m) (h : n + m ≤ 1000000) : a.length + b.length ≤ lim := Nat.le_trans (Nat.add_le_add x.le y.le) h
/-- a comprehension, by an invariant over what is made -/
theorem lc_ex {full : List D} {src : Option Nat} {tg : D → Option Sg} {cond : Sg → Hd → Res Bool} {elt : Sg → Hd → Res D} {h : Hd} {Z : List D → Hd → Prop} (I : Nat → List D → Hd → Prop) (start : I 0 [] h)
    (step : ∀ i d r h, full[i]? = some d → I i r h → ∃ σ1, tg d = some σ1 ∧ (cond σ1 h).W XF (fun b h1 => if b = true then (elt σ1 h1).W XF (fun y h2 => stays src full h2 ∧ I (i + 1) (r ++ [y]) h2) else stays src full h1 ∧ I (i + 1) r h1))
    (done : ∀ r h, I full.length r h → Z r h) : ∃ r h2, lcItems full src tg cond elt full h = .ok r h2 ∧ Z r h2 := by
  obtain ⟨r, h2, e, J⟩ := W_lc_aux I step full 0 [] h rfl (Nat.zero_le _) start
  rw [List.nil_append] at J
  exact ⟨r, h2, e, done _ _ J⟩
theorem app_lt {h : Hd} {o : Ob} {i : Nat} (hi : i < h.length) : (h ++ [o])[i]? = h[i]? := List.getElem?_append_left hi
theorem len_new {h : Hd} {o : Ob} : (h ++ [o]).length = h.length + 1 := by simp
theorem map_at {α β : Type} {f : α → β} {l : List α} {i : Nat} : (l.map f)[i]? = l[i]?.map f := List.getElem?_map ..
theorem cut_to' {α : Type} {xs : List α} {i : Int} {k : Nat} (e : i = k) : cutL xs none (some i) = xs.take k := by rw [e]; exact cut_to
theorem cut_from' {α : Type} {xs : List α} {i : Int} {k : Nat} (e : i = k) : cutL xs (some i) none = xs.drop k := by rw [e]; exact cut_from
theorem cut_mid' {α : Type} {xs : List α} {i j : Int} {a b : Nat} (e : i = a) (e2 : j = b) : cutL xs (some i) (some j) = (xs.drop a).take (b - a) := by rw [e, e2]; exact cut_mid
theorem at_nat {α : Type} {xs : List α} {i : Int} {k : Nat} (e : i = k) : atI xs i = xs[k]? := by rw [e]; exact at_lit
theorem rng_nil {α : Type} {f : Nat → α} : (List.range 0).map f = [] := rfl
theorem rng_snoc {α : Type} {f : Nat → α} {i : Nat} : (List.range i).map f ++ [f i] = (List.range (i + 1)).map f := by rw [List.range_succ, List.map_append]; rfl
theorem new_at1 {h : Hd} {a o : Ob} : (h ++ [a] ++ [o])[h.length + 1]? = some o := by
  have := new_at (h := h ++ [a]) (o := o)
  rwa [len_new] at this
end Eg
set_option maxHeartbeats 0
namespace Lk00
open PySem PySem.Spec PyProof.Rows L2 Eg
def topS (i : Nat) : Stmt := PySem.Challenge.pw_fractionwords_k00_kind_measures.main.body.getD i (.Pass ⟨0, 0, 0, 0⟩)
/-! size_of(kind): 0:kind -/
def c_size_of_1 : SL := .cons (.ret (.bin .Add (.call 0 (.cons (.ix (.var 0) (.cst (.int 1))) .nil)) (.call 0 (.cons (.ix (.var 0) (.cst (.int 2))) .nil)))) .nil
def c_size_of : SL := .cons (.ife (.isi (.var 0) .str) (.cons (.ret (.cst (.int 1))) .nil) .nil) c_size_of_1
def d_size_of : Df := ⟨"size_of", ["kind"], ["kind"], topS 1, c_size_of⟩
/-! signs_of(kind): 0:kind -/
def c_signs_of : SL := .cons (.ret (.bin .Sub (.call 0 (.cons (.var 0) .nil)) (.cst (.int 1)))) .nil
def d_signs_of : Df := ⟨"signs_of", ["kind"], ["kind"], topS 2, c_signs_of⟩
/-! atoms_of(kind): 0:kind -/
def c_atoms_of_1 : SL := .cons (.ret (.bin .Add (.call 2 (.cons (.ix (.var 0) (.cst (.int 1))) .nil)) (.call 2 (.cons (.ix (.var 0) (.cst (.int 2))) .nil)))) .nil
def c_atoms_of : SL := .cons (.ife (.isi (.var 0) .str) (.cons (.ret (.tup (.cons (.var 0) .nil))) .nil) .nil) c_atoms_of_1
def d_atoms_of : Df := ⟨"atoms_of", ["kind"], ["kind"], topS 3, c_atoms_of⟩
/-! count_of(kind, atom): 0:kind 1:atom -/
def c_count_of : SL := .cons (.ret (.me .count (.call 2 (.cons (.var 0) .nil)) (.cons (.var 1) .nil))) .nil
def d_count_of : Df := ⟨"count_of", ["kind", "atom"], ["kind", "atom"], topS 4, c_count_of⟩
/-! base_of(atom): 0:atom -/
def c_base_of : SL := .cons (.ret (.ix (.me .partition (.var 0) (.cons (.cst (.str ".")) .nil)) (.cst (.int 0)))) .nil
def d_base_of : Df := ⟨"base_of", ["atom"], ["atom"], topS 5, c_base_of⟩
/-! atom_number(atom): 0:atom 1:number -/
def c_atom_number_2 : SL := .cons (.ret (.bi .int (.cons (.var 1) .nil))) .nil
def c_atom_number_1 : SL := .cons (.ife (.cmp .Eq (.var 1) (.cst (.str ""))) (.cons (.ret (.cst (.int 0))) .nil) .nil) c_atom_number_2
def c_atom_number : SL := .cons (.asg 1 (.ix (.me .partition (.var 0) (.cons (.cst (.str ".")) .nil)) (.cst (.int 2)))) c_atom_number_1
def d_atom_number : Df := ⟨"atom_number", ["atom"], ["atom", "number"], topS 6, c_atom_number⟩
/-! _law_cell(script, k): 0:script 1:k -/
def c__law_cell_1 : SL := .cons (.ret (.cst (.int 0))) .nil
def c__law_cell : SL := .cons (.ife (.cmp .Lt (.var 1) (.bi .len (.cons (.var 0) .nil))) (.cons (.ret (.bi .int (.cons (.ix (.var 0) (.var 1)) .nil))) .nil) .nil) c__law_cell_1
def d__law_cell : Df := ⟨"_law_cell", ["script", "k"], ["script", "k"], topS 8, c__law_cell⟩
/-! _law_mix(x): 0:x -/
def c__law_mix_1 : SL := .cons (.ret (.bin .Mod (.bi .int (.cons (.bin .Add (.bin .Add (.bin .Mult (.var 0) (.var 0)) (.bin .Mult (.cst (.int 5)) (.var 0))) (.cst (.int 104729))) .nil)) (.cst (.int 998244353)))) .nil
def c__law_mix : SL := .cons (.asg 0 (.bin .Mod (.bi .int (.cons (.bin .Add (.bin .Add (.bin .Mult (.var 0) (.var 0)) (.bin .Mult (.cst (.int 3)) (.var 0))) (.cst (.int 7919))) .nil)) (.cst (.int 1000003)))) c__law_mix_1
def d__law_mix : Df := ⟨"_law_mix", ["x"], ["x"], topS 9, c__law_mix⟩
/-! _law_pool(script, k): 0:script 1:k 2:cell -/
def c__law_pool_2 : SL := .cons (.ret (.lst (.cons (.cst (.int 0)) (.cons (.bin .Add (.bin .Mod (.bi .int (.cons (.bi .abs (.cons (.var 2) .nil)) .nil)) (.cst (.int 2000000011))) (.bin .Mult (.cst (.int 7919)) (.var 1))) (.cons (.cst (.int 0)) .nil))))) .nil
def c__law_pool_1 : SL := .cons (.ife (.cmp .GtE (.var 2) (.bin .Pow (.cst (.int 10)) (.cst (.int 18)))) (.cons (.ret (.lst (.cons (.bin .Sub (.var 2) (.bin .Pow (.cst (.int 10)) (.cst (.int 18)))) (.cons (.bin .Mult (.cst (.int 40009)) (.bin .Add (.var 1) (.cst (.int 1)))) (.cons (.cst (.int 0)) .nil))))) .nil) .nil) c__law_pool_2
def c__law_pool : SL := .cons (.asg 2 (.call 6 (.cons (.var 0) (.cons (.var 1) .nil)))) c__law_pool_1
def d__law_pool : Df := ⟨"_law_pool", ["script", "k"], ["script", "k", "cell"], topS 10, c__law_pool⟩
/-! _law_draw(pool, many): 0:pool 1:many 2:digit -/
def c__law_draw_2 : SL := .cons (.ret (.bin .Mod (.bi .int (.cons (.bin .FloorDiv (.call 7 (.cons (.bin .Add (.ix (.var 0) (.cst (.int 1))) (.bin .Mult (.cst (.int 7368787)) (.ix (.var 0) (.cst (.int 2))))) .nil)) (.cst (.int 8))) .nil)) (.var 1))) .nil
def c__law_draw_1 : SL := .cons (.setI (.var 0) (.cst (.int 2)) (.bin .Add (.ix (.var 0) (.cst (.int 2))) (.cst (.int 1)))) c__law_draw_2
def c__law_draw : SL := .cons (.ife (.cmp .Gt (.ix (.var 0) (.cst (.int 0))) (.cst (.int 0))) (.cons (.asg 2 (.bin .Mod (.bi .int (.cons (.ix (.var 0) (.cst (.int 0))) .nil)) (.var 1))) (.cons (.setI (.var 0) (.cst (.int 0)) (.bin .FloorDiv (.ix (.var 0) (.cst (.int 0))) (.var 1))) (.cons (.ret (.var 2)) .nil))) .nil) c__law_draw_1
def d__law_draw : Df := ⟨"_law_draw", ["pool", "many"], ["pool", "many", "digit"], topS 11, c__law_draw⟩
/-! _law_numbered(base, number): 0:base 1:number -/
def c__law_numbered_1 : SL := .cons (.ret (.tup (.cons (.bin .Add (.bin .Add (.var 0) (.cst (.str "."))) (.bi .str (.cons (.var 1) .nil))) (.cons (.var 0) (.cons (.var 1) .nil))))) .nil
def c__law_numbered : SL := .cons (.ife (.cmp .Eq (.var 1) (.cst (.int 0))) (.cons (.ret (.tup (.cons (.var 0) (.cons (.var 0) (.cons (.cst (.int 0)) .nil))))) .nil) .nil) c__law_numbered_1
def d__law_numbered : Df := ⟨"_law_numbered", ["base", "number"], ["base", "number"], topS 12, c__law_numbered⟩
/-! _law_fresh(pool): 0:pool 1:small 2:base 3:k 4:way -/
def c__law_fresh_6 : SL := .cons (.ret (.call 10 (.cons (.var 2) (.cons (.cst (.int 0)) .nil)))) .nil
def c__law_fresh_5 : SL := .cons (.ife (.cmp .Eq (.var 4) (.cst (.int 3))) (.cons (.ret (.call 10 (.cons (.var 2) (.cons (.bin .Add (.cst (.int 1)) (.call 9 (.cons (.var 0) (.cons (.cst (.int 999999)) .nil)))) .nil)))) .nil) .nil) c__law_fresh_6
def c__law_fresh_4 : SL := .cons (.ife (.cmp .Eq (.var 4) (.cst (.int 2))) (.cons (.ret (.call 10 (.cons (.var 2) (.cons (.bin .Add (.cst (.int 1)) (.call 9 (.cons (.var 0) (.cons (.cst (.int 20)) .nil)))) .nil)))) .nil) .nil) c__law_fresh_5
def c__law_fresh_3 : SL := .cons (.asg 4 (.call 9 (.cons (.var 0) (.cons (.cst (.int 4)) .nil)))) c__law_fresh_4
def c__law_fresh_2 : SL := .cons (.fr (.nm 3) (.rng1 (.ix (.lst (.cons (.cst (.int 0)) (.cons (.cst (.int 0)) (.cons (.cst (.int 1)) (.cons (.cst (.int 7)) (.cons (.cst (.int 0)) (.cons (.cst (.int 2)) (.cons (.cst (.int 3)) (.cons (.cst (.int 5)) (.cons (.cst (.int 4)) (.cons (.cst (.int 6)) .nil))))))))))) (.call 9 (.cons (.var 0) (.cons (.cst (.int 10)) .nil))))) (.cons (.asg 2 (.bin .Add (.var 2) (.ix (.bin .Add (.var 1) (.cst (.str "0123456789"))) (.call 9 (.cons (.var 0) (.cons (.cst (.int 36)) .nil)))))) .nil)) c__law_fresh_3
def c__law_fresh_1 : SL := .cons (.asg 2 (.ix (.var 1) (.call 9 (.cons (.var 0) (.cons (.cst (.int 26)) .nil))))) c__law_fresh_2
def c__law_fresh : SL := .cons (.asg 1 (.cst (.str "abcdefghijklmnopqrstuvwxyz"))) c__law_fresh_1
def d__law_fresh : Df := ⟨"_law_fresh", ["pool"], ["pool", "small", "base", "k", "way"], topS 13, c__law_fresh⟩
/-! _law_lot(pool): 0:pool 1:lot 2:base 3:number -/
def c__law_lot_4 : SL := .cons (.ret (.var 1)) .nil
def c__law_lot_3 : SL := .cons (.ife (.and (.cmp .Gt (.var 3) (.cst (.int 0))) (.cmp .Eq (.call 9 (.cons (.var 0) (.cons (.cst (.int 2)) .nil))) (.cst (.int 0)))) (.cons (.ex (.me .append (.var 1) (.cons (.call 10 (.cons (.var 2) (.cons (.cst (.int 0)) .nil))) .nil))) .nil) (.cons (.ex (.me .append (.var 1) (.cons (.call 10 (.cons (.var 2) (.cons (.bin .Add (.bin .Mod (.bi .int (.cons (.var 3) .nil)) (.cst (.int 999999))) (.cst (.int 1))) .nil))) .nil))) .nil)) c__law_lot_4
def c__law_lot_2 : SL := .cons (.asg 3 (.ix (.ix (.var 1) (.cst (.int 0))) (.cst (.int 2)))) c__law_lot_3
def c__law_lot_1 : SL := .cons (.asg 2 (.ix (.ix (.var 1) (.cst (.int 0))) (.cst (.int 1)))) c__law_lot_2
def c__law_lot : SL := .cons (.asg 1 (.lst (.cons (.call 11 (.cons (.var 0) .nil)) (.cons (.call 11 (.cons (.var 0) .nil)) (.cons (.call 11 (.cons (.var 0) .nil)) .nil))))) c__law_lot_1
def d__law_lot : Df := ⟨"_law_lot", ["pool"], ["pool", "lot", "base", "number"], topS 14, c__law_lot⟩
/-! _law_row(pool, lot): 0:pool 1:lot 2:many 3:row 4:k 5:pick -/
def c__law_row_4 : SL := .cons (.ret (.var 3)) .nil
def c__law_row_3 : SL := .cons (.fr (.nm 4) (.rng1 (.var 2)) (.cons (.asg 5 (.call 9 (.cons (.var 0) (.cons (.cst (.int 6)) .nil)))) (.cons (.ife (.cmp .Lt (.var 5) (.cst (.int 4))) (.cons (.ex (.me .append (.var 3) (.cons (.ix (.var 1) (.var 5)) .nil))) .nil) (.cons (.ife (.cmp .Eq (.var 5) (.cst (.int 4))) (.cons (.ex (.me .append (.var 3) (.cons (.ix (.var 1) (.cst (.int 0))) .nil))) .nil) (.cons (.ex (.me .append (.var 3) (.cons (.call 11 (.cons (.var 0) .nil)) .nil))) .nil)) .nil)) .nil))) c__law_row_4
def c__law_row_2 : SL := .cons (.asg 3 (.lst .nil)) c__law_row_3
def c__law_row_1 : SL := .cons (.ife (.cmp .Eq (.call 9 (.cons (.var 0) (.cons (.cst (.int 8)) .nil))) (.cst (.int 7))) (.cons (.asg 2 (.ix (.lst (.cons (.cst (.int 40)) (.cons (.cst (.int 39)) (.cons (.bin .Add (.cst (.int 9)) (.call 9 (.cons (.var 0) (.cons (.cst (.int 32)) .nil)))) .nil)))) (.call 9 (.cons (.var 0) (.cons (.cst (.int 3)) .nil))))) .nil) .nil) c__law_row_2
def c__law_row : SL := .cons (.asg 2 (.bin .Add (.cst (.int 1)) (.call 9 (.cons (.var 0) (.cons (.cst (.int 8)) .nil))))) c__law_row_1
def d__law_row : Df := ⟨"_law_row", ["pool", "lot"], ["pool", "lot", "many", "row", "k", "pick"], topS 15, c__law_row⟩
/-! _law_bracket(pool, texts, way): 0:pool 1:texts 2:way 3:left 4:sign 5:first -/
def c__law_bracket_6 : SL := .cons (.ret (.tup (.cons (.var 4) (.cons (.var 5) (.cons (.call 14 (.cons (.var 0) (.cons (.sl (.var 1) (.yes (.var 3)) .no) (.cons (.var 2) .nil)))) .nil))))) .nil
def c__law_bracket_5 : SL := .cons (.asg 5 (.call 14 (.cons (.var 0) (.cons (.sl (.var 1) .no (.yes (.var 3))) (.cons (.var 2) .nil))))) c__law_bracket_6
def c__law_bracket_4 : SL := .cons (.asg 4 (.ix (.cst (.str "/>*")) (.call 9 (.cons (.var 0) (.cons (.cst (.int 3)) .nil))))) c__law_bracket_5
def c__law_bracket_3 : SL := .cons (.ife (.cmp .Eq (.var 2) (.cst (.int 2))) (.cons (.asg 3 (.bin .Sub (.bi .len (.cons (.var 1) .nil)) (.cst (.int 1)))) .nil) .nil) c__law_bracket_4
def c__law_bracket_2 : SL := .cons (.ife (.cmp .Eq (.var 2) (.cst (.int 1))) (.cons (.asg 3 (.cst (.int 1))) .nil) .nil) c__law_bracket_3
def c__law_bracket_1 : SL := .cons (.asg 3 (.bin .Add (.cst (.int 1)) (.call 9 (.cons (.var 0) (.cons (.bin .Sub (.bi .len (.cons (.var 1) .nil)) (.cst (.int 1))) .nil))))) c__law_bracket_2
def c__law_bracket : SL := .cons (.ife (.cmp .Eq (.bi .len (.cons (.var 1) .nil)) (.cst (.int 1))) (.cons (.ret (.ix (.var 1) (.cst (.int 0)))) .nil) .nil) c__law_bracket_1
def d__law_bracket : Df := ⟨"_law_bracket", ["pool", "texts", "way"], ["pool", "texts", "way", "left", "sign", "first"], topS 16, c__law_bracket⟩
/-! _law_is_integer(told): 0:told -/
def c__law_is_integer : SL := .cons (.ret (.and (.isi (.var 0) .int) (.not (.isi (.var 0) .bool)))) .nil
def d__law_is_integer : Df := ⟨"_law_is_integer", ["told"], ["told"], topS 17, c__law_is_integer⟩
/-! _law_same_texts(told, due): 0:told 1:due 2:k -/
def c__law_same_texts_2 : SL := .cons (.ret (.cst (.bl true))) .nil
def c__law_same_texts_1 : SL := .cons (.fr (.nm 2) (.rng1 (.bi .len (.cons (.var 1) .nil))) (.cons (.ife (.or (.not (.isi (.ix (.var 0) (.var 2)) .str)) (.cmp .NotEq (.ix (.var 0) (.var 2)) (.ix (.var 1) (.var 2)))) (.cons (.ret (.cst (.bl false))) .nil) .nil) .nil)) c__law_same_texts_2
def c__law_same_texts : SL := .cons (.ife (.or (.not (.isi (.var 0) .tuple)) (.cmp .NotEq (.bi .len (.cons (.var 0) .nil)) (.bi .len (.cons (.var 1) .nil)))) (.cons (.ret (.cst (.bl false))) .nil) .nil) c__law_same_texts_1
def d__law_same_texts : Df := ⟨"_law_same_texts", ["told", "due"], ["told", "due", "k"], topS 18, c__law_same_texts⟩
/-! _law_measured(kind, texts, asked): 0:kind 1:texts 2:asked 3:size 4:signs 5:atom 6:many 7:text -/
def c__law_measured_6 : SL := .cons (.ret (.cst (.bl true))) .nil
def c__law_measured_5 : SL := .cons (.fr (.nm 5) (.of (.var 2)) (.cons (.asg 6 (.call 3 (.cons (.var 0) (.cons (.var 5) .nil)))) (.cons (.ife (.or (.not (.call 15 (.cons (.var 6) .nil))) (.cmp .NotEq (.var 6) (.bi .len (.cons (.lc (.var 7) (.nm 7) [7] (.of (.var 1)) (.yes (.cmp .Eq (.var 7) (.var 5)))) .nil)))) (.cons (.ret (.cst (.bl false))) .nil) .nil) .nil))) c__law_measured_6
def c__law_measured_4 : SL := .cons (.ife (.or (.not (.call 15 (.cons (.var 4) .nil))) (.cmp .NotEq (.var 4) (.bin .Sub (.bi .len (.cons (.var 1) .nil)) (.cst (.int 1))))) (.cons (.ret (.cst (.bl false))) .nil) .nil) c__law_measured_5
def c__law_measured_3 : SL := .cons (.ife (.or (.not (.call 15 (.cons (.var 3) .nil))) (.cmp .NotEq (.var 3) (.bi .len (.cons (.var 1) .nil)))) (.cons (.ret (.cst (.bl false))) .nil) .nil) c__law_measured_4
def c__law_measured_2 : SL := .cons (.asg 4 (.call 1 (.cons (.var 0) .nil))) c__law_measured_3
def c__law_measured_1 : SL := .cons (.asg 3 (.call 0 (.cons (.var 0) .nil))) c__law_measured_2
def c__law_measured : SL := .cons (.ife (.not (.call 16 (.cons (.call 2 (.cons (.var 0) .nil)) (.cons (.var 1) .nil)))) (.cons (.ret (.cst (.bl false))) .nil) .nil) c__law_measured_1
def d__law_measured : Df := ⟨"_law_measured", ["kind", "texts", "asked"], ["kind", "texts", "asked", "size", "signs", "atom", "many", "text"], topS 19, c__law_measured⟩
/-! _law_apart(atoms): 0:atoms 1:text 2:base 3:number 4:told 5:many -/
def c__law_apart_1 : SL := .cons (.ret (.cst (.bl true))) .nil
def c__law_apart : SL := .cons (.fr (.tp [1, 2, 3]) (.of (.var 0)) (.cons (.asg 4 (.call 4 (.cons (.var 1) .nil))) (.cons (.asg 5 (.call 5 (.cons (.var 1) .nil))) (.cons (.ife (.or (.not (.isi (.var 4) .str)) (.cmp .NotEq (.var 4) (.var 2))) (.cons (.ret (.cst (.bl false))) .nil) .nil) (.cons (.ife (.or (.not (.call 15 (.cons (.var 5) .nil))) (.cmp .NotEq (.var 5) (.var 3))) (.cons (.ret (.cst (.bl false))) .nil) .nil) .nil))))) c__law_apart_1
def d__law_apart : Df := ⟨"_law_apart", ["atoms"], ["atoms", "text", "base", "number", "told", "many"], topS 20, c__law_apart⟩
/-! law(script): 0:script 1:pool 2:lot 3:row 4:asked 5:text 6:base 7:number 8:texts 9:back 10:shape 11:first 12:second 13:plain 14:atom -/
def c_law_13 : SL := .cons (.ret (.and (.call 18 (.cons (.bin .Add (.bin .Add (.var 3) (.var 2)) (.var 13)) .nil)) (.call 17 (.cons (.var 11) (.cons (.var 8) (.cons (.var 4) .nil)))))) .nil
def c_law_12 : SL := .cons (.asg 13 (.lst (.cons (.tup (.cons (.cst (.str "a")) (.cons (.cst (.str "a")) (.cons (.cst (.int 0)) .nil)))) (.cons (.tup (.cons (.cst (.str "z9999999.999999")) (.cons (.cst (.str "z9999999")) (.cons (.cst (.int 999999)) .nil)))) (.cons (.tup (.cons (.cst (.str "n1.1")) (.cons (.cst (.str "n1")) (.cons (.cst (.int 1)) .nil)))) (.cons (.tup (.cons (.cst (.str "a00.10")) (.cons (.cst (.str "a00")) (.cons (.cst (.int 10)) .nil)))) .nil)))))) c_law_13
def c_law_11 : SL := .cons (.ife (.or (.not (.call 17 (.cons (.var 11) (.cons (.var 8) (.cons (.var 4) .nil))))) (.not (.call 17 (.cons (.var 12) (.cons (.var 9) (.cons (.var 4) .nil)))))) (.cons (.ret (.cst (.bl false))) .nil) .nil) c_law_12
def c_law_10 : SL := .cons (.asg 12 (.call 14 (.cons (.var 10) (.cons (.var 9) (.cons (.call 9 (.cons (.var 10) (.cons (.cst (.int 8)) .nil))) .nil))))) c_law_11
def c_law_9 : SL := .cons (.asg 10 (.call 8 (.cons (.var 0) (.cons (.cst (.int 2)) .nil)))) c_law_10
def c_law_8 : SL := .cons (.asg 11 (.call 14 (.cons (.var 10) (.cons (.var 8) (.cons (.call 9 (.cons (.var 10) (.cons (.cst (.int 8)) .nil))) .nil))))) c_law_9
def c_law_7 : SL := .cons (.asg 10 (.call 8 (.cons (.var 0) (.cons (.cst (.int 1)) .nil)))) c_law_8
def c_law_6 : SL := .cons (.asg 9 (.bi .rev (.cons (.var 8) .nil))) c_law_7
def c_law_5 : SL := .cons (.asg 8 (.lc (.ix (.var 14) (.cst (.int 0))) (.nm 14) [14] (.of (.var 3)) .no)) c_law_6
def c_law_4 : SL := .cons (.fr (.tp [5, 6, 7]) (.of (.var 2)) (.cons (.asg 4 (.bin .Add (.var 4) (.lst (.cons (.var 5) (.cons (.var 6) (.cons (.ix (.call 10 (.cons (.var 6) (.cons (.bin .Add (.bin .Mod (.bi .int (.cons (.var 7) .nil)) (.cst (.int 999999))) (.cst (.int 1))) .nil))) (.cst (.int 0))) (.cons (.sl (.var 6) .no (.yes (.cst (.int 1)))) .nil))))))) .nil)) c_law_5
def c_law_3 : SL := .cons (.asg 4 (.lst (.cons (.ix (.call 11 (.cons (.var 1) .nil)) (.cst (.int 0))) .nil))) c_law_4
def c_law_2 : SL := .cons (.asg 3 (.call 13 (.cons (.var 1) (.cons (.var 2) .nil)))) c_law_3
def c_law_1 : SL := .cons (.asg 2 (.call 12 (.cons (.var 1) .nil))) c_law_2
def c_law : SL := .cons (.asg 1 (.call 8 (.cons (.var 0) (.cons (.cst (.int 0)) .nil)))) c_law_1
def d_law : Df := ⟨"law", ["script"], ["script", "pool", "lot", "row", "asked", "text", "base", "number", "texts", "back", "shape", "first", "second", "plain", "atom"], topS 21, c_law⟩
def ds : List Df := [d_size_of, d_signs_of, d_atoms_of, d_count_of, d_base_of, d_atom_number, d__law_cell, d__law_mix, d__law_pool, d__law_draw, d__law_numbered, d__law_fresh, d__law_lot, d__law_row, d__law_bracket, d__law_is_integer, d__law_same_texts, d__law_measured, d__law_apart, d_law]
def glb : List (Str × D) := []
def blt : List Str := ["abs", "bool", "int", "isinstance", "len", "list", "range", "reversed", "str", "tuple"]
def nms : List Str := ds.map Df.name
theorem ok_size_of : DfX nms glb blt d_size_of := ⟨⟨⟨rfl, rfl, rfl, by decide +kernel, rfl, by decide +kernel, by decide +kernel⟩, by kernel_rfl⟩, fun _ _ _ _ _ _ us hl => match us, hl with | [_], _ => rfl⟩
theorem ok_signs_of : DfX nms glb blt d_signs_of := ⟨⟨⟨rfl, rfl, rfl, by decide +kernel, rfl, by decide +kernel, by decide +kernel⟩, by kernel_rfl⟩, fun _ _ _ _ _ _ us hl => match us, hl with | [_], _ => rfl⟩
theorem ok_atoms_of : DfX nms glb blt d_atoms_of := ⟨⟨⟨rfl, rfl, rfl, by decide +kernel, rfl, by decide +kernel, by decide +kernel⟩, by kernel_rfl⟩, fun _ _ _ _ _ _ us hl => match us, hl with | [_], _ => rfl⟩
theorem ok_count_of : DfX nms glb blt d_count_of := ⟨⟨⟨rfl, rfl, rfl, by decide +kernel, rfl, by decide +kernel, by decide +kernel⟩, by kernel_rfl⟩, fun _ _ _ _ _ _ us hl => match us, hl with | [_, _], _ => rfl⟩
theorem ok_base_of : DfX nms glb blt d_base_of := ⟨⟨⟨rfl, rfl, rfl, by decide +kernel, rfl, by decide +kernel, by decide +kernel⟩, by kernel_rfl⟩, fun _ _ _ _ _ _ us hl => match us, hl with | [_], _ => rfl⟩
theorem ok_atom_number : DfX nms glb blt d_atom_number := ⟨⟨⟨rfl, rfl, rfl, by decide +kernel, rfl, by decide +kernel, by decide +kernel⟩, by kernel_rfl⟩, fun _ _ _ _ _ _ us hl => match us, hl with | [_], _ => rfl⟩
theorem ok__law_cell : DfX nms glb blt d__law_cell := ⟨⟨⟨rfl, rfl, rfl, by decide +kernel, rfl, by decide +kernel, by decide +kernel⟩, by kernel_rfl⟩, fun _ _ _ _ _ _ us hl => match us, hl with | [_, _], _ => rfl⟩
theorem ok__law_mix : DfX nms glb blt d__law_mix := ⟨⟨⟨rfl, rfl, rfl, by decide +kernel, rfl, by decide +kernel, by decide +kernel⟩, by kernel_rfl⟩, fun _ _ _ _ _ _ us hl => match us, hl with | [_], _ => rfl⟩
theorem ok__law_pool : DfX nms glb blt d__law_pool := ⟨⟨⟨rfl, rfl, rfl, by decide +kernel, rfl, by decide +kernel, by decide +kernel⟩, by kernel_rfl⟩, fun _ _ _ _ _ _ us hl => match us, hl with | [_, _], _ => rfl⟩
theorem ok__law_draw : DfX nms glb blt d__law_draw := ⟨⟨⟨rfl, rfl, rfl, by decide +kernel, rfl, by decide +kernel, by decide +kernel⟩, by kernel_rfl⟩, fun _ _ _ _ _ _ us hl => match us, hl with | [_, _], _ => rfl⟩
theorem ok__law_numbered : DfX nms glb blt d__law_numbered := ⟨⟨⟨rfl, rfl, rfl, by decide +kernel, rfl, by decide +kernel, by decide +kernel⟩, by kernel_rfl⟩, fun _ _ _ _ _ _ us hl => match us, hl with | [_, _], _ => rfl⟩
theorem ok__law_fresh : DfX nms glb blt d__law_fresh := ⟨⟨⟨rfl, rfl, rfl, by decide +kernel, rfl, by decide +kernel, by decide +kernel⟩, by kernel_rfl⟩, fun _ _ _ _ _ _ us hl => match us, hl with | [_], _ => rfl⟩
theorem ok__law_lot : DfX nms glb blt d__law_lot := ⟨⟨⟨rfl, rfl, rfl, by decide +kernel, rfl, by decide +kernel, by decide +kernel⟩, by kernel_rfl⟩, fun _ _ _ _ _ _ us hl => match us, hl with | [_], _ => rfl⟩
theorem ok__law_row : DfX nms glb blt d__law_row := ⟨⟨⟨rfl, rfl, rfl, by decide +kernel, rfl, by decide +kernel, by decide +kernel⟩, by kernel_rfl⟩, fun _ _ _ _ _ _ us hl => match us, hl with | [_, _], _ => rfl⟩
theorem ok__law_bracket : DfX nms glb blt d__law_bracket := ⟨⟨⟨rfl, rfl, rfl, by decide +kernel, rfl, by decide +kernel, by decide +kernel⟩, by kernel_rfl⟩, fun _ _ _ _ _ _ us hl => match us, hl with | [_, _, _], _ => rfl⟩
theorem ok__law_is_integer : DfX nms glb blt d__law_is_integer := ⟨⟨⟨rfl, rfl, rfl, by decide +kernel, rfl, by decide +kernel, by decide +kernel⟩, by kernel_rfl⟩, fun _ _ _ _ _ _ us hl => match us, hl with | [_], _ => rfl⟩
theorem ok__law_same_texts : DfX nms glb blt d__law_same_texts := ⟨⟨⟨rfl, rfl, rfl, by decide +kernel, rfl, by decide +kernel, by decide +kernel⟩, by kernel_rfl⟩, fun _ _ _ _ _ _ us hl => match us, hl with | [_, _], _ => rfl⟩
theorem ok__law_measured : DfX nms glb blt d__law_measured := ⟨⟨⟨rfl, rfl, rfl, by decide +kernel, rfl, by decide +kernel, by decide +kernel⟩, by kernel_rfl⟩, fun _ _ _ _ _ _ us hl => match us, hl with | [_, _, _], _ => rfl⟩
theorem ok__law_apart : DfX nms glb blt d__law_apart := ⟨⟨⟨rfl, rfl, rfl, by decide +kernel, rfl, by decide +kernel, by decide +kernel⟩, by kernel_rfl⟩, fun _ _ _ _ _ _ us hl => match us, hl with | [_], _ => rfl⟩
theorem ok_law : DfX nms glb blt d_law := ⟨⟨⟨rfl, rfl, rfl, by decide +kernel, rfl, by decide +kernel, by decide +kernel⟩, by kernel_rfl⟩, fun _ _ _ _ _ _ us hl => match us, hl with | [_], _ => rfl⟩
theorem ok_all : ∀ d ∈ ds, DfX nms glb blt d := by
  intro d hd
  simp only [ds, List.mem_cons, List.not_mem_nil, or_false] at hd
  rcases hd with rfl | rfl | rfl | rfl | rfl | rfl | rfl | rfl | rfl | rfl | rfl | rfl | rfl | rfl | rfl | rfl | rfl | rfl | rfl | rfl
  · exact ok_size_of
  · exact ok_signs_of
  · exact ok_atoms_of
  · exact ok_count_of
  · exact ok_base_of
  · exact ok_atom_number
  · exact ok__law_cell
  · exact ok__law_mix
  · exact ok__law_pool
  · exact ok__law_draw
  · exact ok__law_numbered
  · exact ok__law_fresh
  · exact ok__law_lot
  · exact ok__law_row
  · exact ok__law_bracket
  · exact ok__law_is_integer
  · exact ok__law_same_texts
  · exact ok__law_measured
  · exact ok__law_apart
  · exact ok_law
abbrev P : List Fn := ds.map Df.fn
theorem P_size_of : P[0]? = some ⟨1, 1, c_size_of⟩ := rfl
theorem P_signs_of : P[1]? = some ⟨1, 1, c_signs_of⟩ := rfl
theorem P_atoms_of : P[2]? = some ⟨1, 1, c_atoms_of⟩ := rfl
theorem P_count_of : P[3]? = some ⟨2, 2, c_count_of⟩ := rfl
theorem P_base_of : P[4]? = some ⟨1, 1, c_base_of⟩ := rfl
theorem P_atom_number : P[5]? = some ⟨1, 2, c_atom_number⟩ := rfl
theorem P__law_cell : P[6]? = some ⟨2, 2, c__law_cell⟩ := rfl
theorem P__law_mix : P[7]? = some ⟨1, 1, c__law_mix⟩ := rfl
theorem P__law_pool : P[8]? = some ⟨2, 3, c__law_pool⟩ := rfl
theorem P__law_draw : P[9]? = some ⟨2, 3, c__law_draw⟩ := rfl
theorem P__law_numbered : P[10]? = some ⟨2, 2, c__law_numbered⟩ := rfl
theorem P__law_fresh : P[11]? = some ⟨1, 5, c__law_fresh⟩ := rfl
theorem P__law_lot : P[12]? = some ⟨1, 4, c__law_lot⟩ := rfl
theorem P__law_row : P[13]? = some ⟨2, 6, c__law_row⟩ := rfl
theorem P__law_bracket : P[14]? = some ⟨3, 6, c__law_bracket⟩ := rfl
theorem P__law_is_integer : P[15]? = some ⟨1, 1, c__law_is_integer⟩ := rfl
theorem P__law_same_texts : P[16]? = some ⟨2, 3, c__law_same_texts⟩ := rfl
theorem P__law_measured : P[17]? = some ⟨3, 8, c__law_measured⟩ := rfl
theorem P__law_apart : P[18]? = some ⟨1, 6, c__law_apart⟩ := rfl
theorem P_law : P[19]? = some ⟨1, 15, c_law⟩ := rfl
end Lk00
set_option maxHeartbeats 4000000
namespace Lk00
open PySem L2 PyProof.Rows PySem.PyData PySem.Builtin.Str Eg
/-! ### the pool of numbers -/
section
variable {wf n : Nat} {E : Nat → Hd → Prop}
theorem cell_ok {ns : List Int} {k : Int} {h : Hd} (hk : 0 ≤ k) : (callN P wf (n + 1) 6 [.fl (ns.map D.int), .int k] h).W E (fun d h' => h' = h ∧ ∃ i, d = .int i) := by
  refine W_call P__law_cell rfl ?_
  simp only [c__law_cell, c__law_cell_1, startD, List.map_cons, List.map_nil, List.length_cons, List.length_nil, List.replicate, List.cons_append, List.nil_append, Nat.reduceSub, Nat.reduceAdd]
  simp only [ex_some, W_var, W_cst, W_bin, W_neg, W_cmp, W_chn, W_and, W_or, W_not, W_ite, W_tup, W_lst, W_dic, W_ix, W_sl, W_fn, W_bi, W_me, W_isi, W_lc, W_a0, W_a1, W_o0, W_o1, W_c0, W_c1, W_iof, W_ir1, W_ir2, W_truR, W_blR, T_and, T_or, T_not, T_var, T_cst, T_cmp, T_chn, T_fn, T_bi, T_isi, S_asg, S_unp, S_set, S_augA, S_augS, S_ex, S_ret, S_retN, S_ife, S_whl, S_fr, S_pas, S_brk, S_cnt, S_rse, b_add, b_sub, b_mul, b_div, b_mod, b_pow, b_str, b_tup, b_ref, c_eq, c_ne, c_in, c_ni, c_lt, c_le, c_gt, c_ge, c_ltS, c_is, c_isN, c_isB, q_int, q_str, q_bl, q_is, q_si, x_tup, x_fl, x_str, x_ref, x_dic, x_dicS, s_tup, s_str, s_fl, s_ref, i_len, i_int, i_intB, i_intS, i_abs, i_str, i_min, i_max, i_sum, i_all, i_any, i_list, i_tuple, n_tup, n_fl, n_ref, n_dic, l_fl, l_ref, e_tup, e_fl, e_ref, it_tup, it_fl, it_str, it_ref, k_app, k_ext, k_pop, k_split, k_part, k_join, m_app, m_ext, m_pop, m_split, m_part, m_join, k_cntT, k_cntS, k_sw, k_up, m_cntT, m_cntS, m_sw, m_up, i_rev, y_str, y_int, y_bl, y_non, y_tup, y_fl, y_ref, y_dic, t_bl, t_int, t_non, t_tup, t_fl, t_ref, g_nm, g_tp, setN0, setN1, wipe0, wipe1, stay0, stay1, at_0, at_1, at_2, at_3, at_4, at_5, at_last, ix_0, ix_1, ix_2, cut_init, new_at, new_at1, app_lt, put_at, put_ne, W_ok, W_nx, W_rt, W_bk, W_ct, W_bad, W_badS, List.getElem?_cons_zero, List.getElem?_cons_succ, List.set_cons_zero, List.set_cons_succ, if_true, if_false, Bool.false_eq_true, true_and, and_true, decide_eq_true_eq, decide_eq_false_iff_not, forall_const, not_true_eq_false, not_false_eq_true, false_implies, implies_true, Option.some.injEq, exists_eq_left', exists_eq_left, exists_and_left, fin_nx, fin_rt, fin_bk, fin_ct, fin_ex, Bool.not_eq_true', Bool.not_eq_false', Bool.true_eq_false, reduceCtorEq, D.bl.injEq, D.int.injEq, D.str.injEq, D.ref.injEq, D.tup.injEq, D.fl.injEq, Ob.lst.injEq, Ob.dic.injEq, List.length_map, List.length_append, List.length_cons, List.length_nil, Nat.reduceAdd, Nat.reduceLT, Nat.reduceLeDiff, Nat.zero_lt_succ, false_and, and_false, exists_false, ty_ne, eq_self, Int.cast_ofNat_Int, Int.reduceEq, Int.reduceLT, Int.reduceLE, decide_true, decide_false, ofString_inj, String.reduceEq, Option.map_some, Bool.not_true, Bool.not_false, true_implies, W_cons, W_nil]
  refine ⟨fun hlt => ?_, fun _ => ⟨0, rfl⟩⟩
  obtain ⟨x, e1, e2⟩ := atI_of (xs := ns.map D.int) hk (by rw [List.length_map]; exact hlt)
  rw [List.getElem?_map] at e2
  cases e3 : ns[k.toNat]? with
  | none => rw [e3] at e2; cases e2
  | some z =>
    rw [e3] at e2
    cases e2
    refine ⟨_, e1, ?_⟩
    simp only [ex_some, W_var, W_cst, W_bin, W_neg, W_cmp, W_chn, W_and, W_or, W_not, W_ite, W_tup, W_lst, W_dic, W_ix, W_sl, W_fn, W_bi, W_me, W_isi, W_lc, W_a0, W_a1, W_o0, W_o1, W_c0, W_c1, W_iof, W_ir1, W_ir2, W_truR, W_blR, T_and, T_or, T_not, T_var, T_cst, T_cmp, T_chn, T_fn, T_bi, T_isi, S_asg, S_unp, S_set, S_augA, S_augS, S_ex, S_ret, S_retN, S_ife, S_whl, S_fr, S_pas, S_brk, S_cnt, S_rse, b_add, b_sub, b_mul, b_div, b_mod, b_pow, b_str, b_tup, b_ref, c_eq, c_ne, c_in, c_ni, c_lt, c_le, c_gt, c_ge, c_ltS, c_is, c_isN, c_isB, q_int, q_str, q_bl, q_is, q_si, x_tup, x_fl, x_str, x_ref, x_dic, x_dicS, s_tup, s_str, s_fl, s_ref, i_len, i_int, i_intB, i_intS, i_abs, i_str, i_min, i_max, i_sum, i_all, i_any, i_list, i_tuple, n_tup, n_fl, n_ref, n_dic, l_fl, l_ref, e_tup, e_fl, e_ref, it_tup, it_fl, it_str, it_ref, k_app, k_ext, k_pop, k_split, k_part, k_join, m_app, m_ext, m_pop, m_split, m_part, m_join, k_cntT, k_cntS, k_sw, k_up, m_cntT, m_cntS, m_sw, m_up, i_rev, y_str, y_int, y_bl, y_non, y_tup, y_fl, y_ref, y_dic, t_bl, t_int, t_non, t_tup, t_fl, t_ref, g_nm, g_tp, setN0, setN1, wipe0, wipe1, stay0, stay1, at_0, at_1, at_2, at_3, at_4, at_5, at_last, ix_0, ix_1, ix_2, cut_init, new_at, new_at1, app_lt, put_at, put_ne, W_ok, W_nx, W_rt, W_bk, W_ct, W_bad, W_badS, List.getElem?_cons_zero, List.getElem?_cons_succ, List.set_cons_zero, List.set_cons_succ, if_true, if_false, Bool.false_eq_true, true_and, and_true, decide_eq_true_eq, decide_eq_false_iff_not, forall_const, not_true_eq_false, not_false_eq_true, false_implies, implies_true, Option.some.injEq, exists_eq_left', exists_eq_left, exists_and_left, fin_nx, fin_rt, fin_bk, fin_ct, fin_ex, Bool.not_eq_true', Bool.not_eq_false', Bool.true_eq_false, reduceCtorEq, D.bl.injEq, D.int.injEq, D.str.injEq, D.ref.injEq, D.tup.injEq, D.fl.injEq, Ob.lst.injEq, Ob.dic.injEq, List.length_map, List.length_append, List.length_cons, List.length_nil, Nat.reduceAdd, Nat.reduceLT, Nat.reduceLeDiff, Nat.zero_lt_succ, false_and, and_false, exists_false, ty_ne, eq_self, Int.cast_ofNat_Int, Int.reduceEq, Int.reduceLT, Int.reduceLE, decide_true, decide_false, ofString_inj, String.reduceEq, Option.map_some, Bool.not_true, Bool.not_false, true_implies]
    exact ⟨_, rfl⟩
theorem mix_ok {x : Int} {h : Hd} (h0 : 0 ≤ x) (h1 : x < 2 ^ 63) : (callN P wf (n + 1) 7 [.int x] h).W E (fun d h' => h' = h ∧ ∃ i, d = .int i ∧ 0 ≤ i) := by
  refine W_call P__law_mix rfl ?_
  simp only [c__law_mix, c__law_mix_1, startD, List.map_cons, List.map_nil, List.length_cons, List.length_nil, List.replicate, List.cons_append, List.nil_append, Nat.reduceSub, Nat.reduceAdd]
  simp only [ex_some, W_var, W_cst, W_bin, W_neg, W_cmp, W_chn, W_and, W_or, W_not, W_ite, W_tup, W_lst, W_dic, W_ix, W_sl, W_fn, W_bi, W_me, W_isi, W_lc, W_a0, W_a1, W_o0, W_o1, W_c0, W_c1, W_iof, W_ir1, W_ir2, W_truR, W_blR, T_and, T_or, T_not, T_var, T_cst, T_cmp, T_chn, T_fn, T_bi, T_isi, S_asg, S_unp, S_set, S_augA, S_augS, S_ex, S_ret, S_retN, S_ife, S_whl, S_fr, S_pas, S_brk, S_cnt, S_rse, b_add, b_sub, b_mul, b_div, b_mod, b_pow, b_str, b_tup, b_ref, c_eq, c_ne, c_in, c_ni, c_lt, c_le, c_gt, c_ge, c_ltS, c_is, c_isN, c_isB, q_int, q_str, q_bl, q_is, q_si, x_tup, x_fl, x_str, x_ref, x_dic, x_dicS, s_tup, s_str, s_fl, s_ref, i_len, i_int, i_intB, i_intS, i_abs, i_str, i_min, i_max, i_sum, i_all, i_any, i_list, i_tuple, n_tup, n_fl, n_ref, n_dic, l_fl, l_ref, e_tup, e_fl, e_ref, it_tup, it_fl, it_str, it_ref, k_app, k_ext, k_pop, k_split, k_part, k_join, m_app, m_ext, m_pop, m_split, m_part, m_join, k_cntT, k_cntS, k_sw, k_up, m_cntT, m_cntS, m_sw, m_up, i_rev, y_str, y_int, y_bl, y_non, y_tup, y_fl, y_ref, y_dic, t_bl, t_int, t_non, t_tup, t_fl, t_ref, g_nm, g_tp, setN0, setN1, wipe0, wipe1, stay0, stay1, at_0, at_1, at_2, at_3, at_4, at_5, at_last, ix_0, ix_1, ix_2, cut_init, new_at, new_at1, app_lt, put_at, put_ne, W_ok, W_nx, W_rt, W_bk, W_ct, W_bad, W_badS, List.getElem?_cons_zero, List.getElem?_cons_succ, List.set_cons_zero, List.set_cons_succ, if_true, if_false, Bool.false_eq_true, true_and, and_true, decide_eq_true_eq, decide_eq_false_iff_not, forall_const, not_true_eq_false, not_false_eq_true, false_implies, implies_true, Option.some.injEq, exists_eq_left', exists_eq_left, exists_and_left, fin_nx, fin_rt, fin_bk, fin_ct, fin_ex, Bool.not_eq_true', Bool.not_eq_false', Bool.true_eq_false, reduceCtorEq, D.bl.injEq, D.int.injEq, D.str.injEq, D.ref.injEq, D.tup.injEq, D.fl.injEq, Ob.lst.injEq, Ob.dic.injEq, List.length_map, List.length_append, List.length_cons, List.length_nil, Nat.reduceAdd, Nat.reduceLT, Nat.reduceLeDiff, Nat.zero_lt_succ, false_and, and_false, exists_false, ty_ne, eq_self, Int.cast_ofNat_Int, Int.reduceEq, Int.reduceLT, Int.reduceLE, decide_true, decide_false, ofString_inj, String.reduceEq, Option.map_some, Bool.not_true, Bool.not_false, true_implies, W_cons, W_nil]
  refine ⟨.inl ⟨by omega, by omega⟩, .inl ⟨by omega, by omega⟩, by omega, ?_, .inl ⟨by omega, by omega⟩, by omega, Int.fmod_nonneg_of_pos _ (by omega)⟩
  have l1 := Int.fmod_nonneg_of_pos (x * x + 3 * x + 7919) (b := 1000003) (by omega)
  have l2 := Int.fmod_lt_of_pos (x * x + 3 * x + 7919) (b := 1000003) (by omega)
  exact .inl ⟨by omega, by omega⟩
def Pool (h : Hd) (p N : Nat) : Prop := ∃ a b c : Int, h[p]? = some (.lst [.int a, .int b, .int c]) ∧ 0 ≤ b ∧ b < 2 ^ 40 ∧ 0 ≤ c ∧ c ≤ N
theorem Pool.mono {h : Hd} {p N M : Nat} (k : Pool h p N) (hn : N ≤ M) : Pool h p M := by
  obtain ⟨a, b, c, h1, h2, h3, h4, h5⟩ := k
  exact ⟨a, b, c, h1, h2, h3, h4, by omega⟩
theorem Pool.lt {h : Hd} {p N : Nat} (k : Pool h p N) : p < h.length := by
  obtain ⟨a, b, c, h1, _⟩ := k
  exact lt_of_get h1
theorem Pool.fr {h h' : Hd} {p N : Nat} {ps : List Nat} (k : Pool h p N) (f : Fr ps h h') (hp : p ∉ ps) : Pool h' p N := by
  obtain ⟨a, b, c, h1, r⟩ := k
  exact ⟨a, b, c, f.at h1 hp, r⟩
theorem pool_ok {ns : List Int} {k : Int} {h : Hd} (hk : 0 ≤ k) (hk2 : k < 1000) : (callN P wf (n + 2) 8 [.fl (ns.map D.int), .int k] h).W E (fun d h' => ∃ p, d = .ref p ∧ h.length ≤ p ∧ Pool h' p 0 ∧ Fr [] h h') := by
  refine W_call P__law_pool rfl ?_
  simp only [c__law_pool, c__law_pool_1, c__law_pool_2, startD, List.map_cons, List.map_nil, List.length_cons, List.length_nil, List.replicate, List.cons_append, List.nil_append, Nat.reduceSub, Nat.reduceAdd]
  simp only [ex_some, W_var, W_cst, W_bin, W_neg, W_cmp, W_chn, W_and, W_or, W_not, W_ite, W_tup, W_lst, W_dic, W_ix, W_sl, W_fn, W_bi, W_me, W_isi, W_lc, W_a0, W_a1, W_o0, W_o1, W_c0, W_c1, W_iof, W_ir1, W_ir2, W_truR, W_blR, T_and, T_or, T_not, T_var, T_cst, T_cmp, T_chn, T_fn, T_bi, T_isi, S_asg, S_unp, S_set, S_augA, S_augS, S_ex, S_ret, S_retN, S_ife, S_whl, S_fr, S_pas, S_brk, S_cnt, S_rse, b_add, b_sub, b_mul, b_div, b_mod, b_pow, b_str, b_tup, b_ref, c_eq, c_ne, c_in, c_ni, c_lt, c_le, c_gt, c_ge, c_ltS, c_is, c_isN, c_isB, q_int, q_str, q_bl, q_is, q_si, x_tup, x_fl, x_str, x_ref, x_dic, x_dicS, s_tup, s_str, s_fl, s_ref, i_len, i_int, i_intB, i_intS, i_abs, i_str, i_min, i_max, i_sum, i_all, i_any, i_list, i_tuple, n_tup, n_fl, n_ref, n_dic, l_fl, l_ref, e_tup, e_fl, e_ref, it_tup, it_fl, it_str, it_ref, k_app, k_ext, k_pop, k_split, k_part, k_join, m_app, m_ext, m_pop, m_split, m_part, m_join, k_cntT, k_cntS, k_sw, k_up, m_cntT, m_cntS, m_sw, m_up, i_rev, y_str, y_int, y_bl, y_non, y_tup, y_fl, y_ref, y_dic, t_bl, t_int, t_non, t_tup, t_fl, t_ref, g_nm, g_tp, setN0, setN1, wipe0, wipe1, stay0, stay1, at_0, at_1, at_2, at_3, at_4, at_5, at_last, ix_0, ix_1, ix_2, cut_init, new_at, new_at1, app_lt, put_at, put_ne, W_ok, W_nx, W_rt, W_bk, W_ct, W_bad, W_badS, List.getElem?_cons_zero, List.getElem?_cons_succ, List.set_cons_zero, List.set_cons_succ, if_true, if_false, Bool.false_eq_true, true_and, and_true, decide_eq_true_eq, decide_eq_false_iff_not, forall_const, not_true_eq_false, not_false_eq_true, false_implies, implies_true, Option.some.injEq, exists_eq_left', exists_eq_left, exists_and_left, fin_nx, fin_rt, fin_bk, fin_ct, fin_ex, Bool.not_eq_true', Bool.not_eq_false', Bool.true_eq_false, reduceCtorEq, D.bl.injEq, D.int.injEq, D.str.injEq, D.ref.injEq, D.tup.injEq, D.fl.injEq, Ob.lst.injEq, Ob.dic.injEq, List.length_map, List.length_append, List.length_cons, List.length_nil, Nat.reduceAdd, Nat.reduceLT, Nat.reduceLeDiff, Nat.zero_lt_succ, false_and, and_false, exists_false, ty_ne, eq_self, Int.cast_ofNat_Int, Int.reduceEq, Int.reduceLT, Int.reduceLE, decide_true, decide_false, ofString_inj, String.reduceEq, Option.map_some, Bool.not_true, Bool.not_false, true_implies, W_cons, W_nil]
  refine (cell_ok hk).imp ?_
  rintro _ _ ⟨rfl, i, rfl⟩
  simp only [ex_some, W_var, W_cst, W_bin, W_neg, W_cmp, W_chn, W_and, W_or, W_not, W_ite, W_tup, W_lst, W_dic, W_ix, W_sl, W_fn, W_bi, W_me, W_isi, W_lc, W_a0, W_a1, W_o0, W_o1, W_c0, W_c1, W_iof, W_ir1, W_ir2, W_truR, W_blR, T_and, T_or, T_not, T_var, T_cst, T_cmp, T_chn, T_fn, T_bi, T_isi, S_asg, S_unp, S_set, S_augA, S_augS, S_ex, S_ret, S_retN, S_ife, S_whl, S_fr, S_pas, S_brk, S_cnt, S_rse, b_add, b_sub, b_mul, b_div, b_mod, b_pow, b_str, b_tup, b_ref, c_eq, c_ne, c_in, c_ni, c_lt, c_le, c_gt, c_ge, c_ltS, c_is, c_isN, c_isB, q_int, q_str, q_bl, q_is, q_si, x_tup, x_fl, x_str, x_ref, x_dic, x_dicS, s_tup, s_str, s_fl, s_ref, i_len, i_int, i_intB, i_intS, i_abs, i_str, i_min, i_max, i_sum, i_all, i_any, i_list, i_tuple, n_tup, n_fl, n_ref, n_dic, l_fl, l_ref, e_tup, e_fl, e_ref, it_tup, it_fl, it_str, it_ref, k_app, k_ext, k_pop, k_split, k_part, k_join, m_app, m_ext, m_pop, m_split, m_part, m_join, k_cntT, k_cntS, k_sw, k_up, m_cntT, m_cntS, m_sw, m_up, i_rev, y_str, y_int, y_bl, y_non, y_tup, y_fl, y_ref, y_dic, t_bl, t_int, t_non, t_tup, t_fl, t_ref, g_nm, g_tp, setN0, setN1, wipe0, wipe1, stay0, stay1, at_0, at_1, at_2, at_3, at_4, at_5, at_last, ix_0, ix_1, ix_2, cut_init, new_at, new_at1, app_lt, put_at, put_ne, W_ok, W_nx, W_rt, W_bk, W_ct, W_bad, W_badS, List.getElem?_cons_zero, List.getElem?_cons_succ, List.set_cons_zero, List.set_cons_succ, if_true, if_false, Bool.false_eq_true, true_and, and_true, decide_eq_true_eq, decide_eq_false_iff_not, forall_const, not_true_eq_false, not_false_eq_true, false_implies, implies_true, Option.some.injEq, exists_eq_left', exists_eq_left, exists_and_left, fin_nx, fin_rt, fin_bk, fin_ct, fin_ex, Bool.not_eq_true', Bool.not_eq_false', Bool.true_eq_false, reduceCtorEq, D.bl.injEq, D.int.injEq, D.str.injEq, D.ref.injEq, D.tup.injEq, D.fl.injEq, Ob.lst.injEq, Ob.dic.injEq, List.length_map, List.length_append, List.length_cons, List.length_nil, Nat.reduceAdd, Nat.reduceLT, Nat.reduceLeDiff, Nat.zero_lt_succ, false_and, and_false, exists_false, ty_ne, eq_self, Int.cast_ofNat_Int, Int.reduceEq, Int.reduceLT, Int.reduceLE, decide_true, decide_false, ofString_inj, String.reduceEq, Option.map_some, Bool.not_true, Bool.not_false, true_implies, W_cons, W_nil]
  have cp : CPow 10 18 := ⟨by omega, by omega, by decide⟩
  refine ⟨cp, fun _ => ⟨cp, .inl ⟨by omega, by omega⟩, by decide, Nat.le_refl _, ⟨_, _, _, new_at, by omega, by omega, by omega, by omega⟩, Fr.new⟩,
    fun _ => ⟨by omega, .inl ⟨by omega, by omega⟩, by decide, Nat.le_refl _, ⟨_, _, _, new_at, ?_, ?_, by omega, by omega⟩, Fr.new⟩⟩
  · have l1 := Int.fmod_nonneg_of_pos (if i < 0 then -i else i) (b := 2000000011) (by omega)
    omega
  · have l2 := Int.fmod_lt_of_pos (if i < 0 then -i else i) (b := 2000000011) (by omega)
    omega
theorem draw_ok {p N : Nat} {m : Int} {h : Hd} (hp : Pool h p N) (hN : N < 1000000) (h0 : 0 < m) (h1 : m < 2 ^ 30) : (callN P wf (n + 2) 9 [.ref p, .int m] h).W E (fun d h' => (∃ v, d = .int v ∧ 0 ≤ v ∧ v < m) ∧ Pool h' p (N + 1) ∧ Fr [p] h h' ∧ h'.length = h.length) := by
  obtain ⟨a, b, c, hg, hb0, hb1, hc0, hc1⟩ := hp
  have hs : ∀ o, (List.set h p o)[p]? = some o := fun o => put_at (lt_of_get hg)
  refine W_call P__law_draw rfl ?_
  simp only [c__law_draw, c__law_draw_1, c__law_draw_2, startD, List.map_cons, List.map_nil, List.length_cons, List.length_nil, List.replicate, List.cons_append, List.nil_append, Nat.reduceSub, Nat.reduceAdd]
  simp only [ex_some, W_var, W_cst, W_bin, W_neg, W_cmp, W_chn, W_and, W_or, W_not, W_ite, W_tup, W_lst, W_dic, W_ix, W_sl, W_fn, W_bi, W_me, W_isi, W_lc, W_a0, W_a1, W_o0, W_o1, W_c0, W_c1, W_iof, W_ir1, W_ir2, W_truR, W_blR, T_and, T_or, T_not, T_var, T_cst, T_cmp, T_chn, T_fn, T_bi, T_isi, S_asg, S_unp, S_set, S_augA, S_augS, S_ex, S_ret, S_retN, S_ife, S_whl, S_fr, S_pas, S_brk, S_cnt, S_rse, b_add, b_sub, b_mul, b_div, b_mod, b_pow, b_str, b_tup, b_ref, c_eq, c_ne, c_in, c_ni, c_lt, c_le, c_gt, c_ge, c_ltS, c_is, c_isN, c_isB, q_int, q_str, q_bl, q_is, q_si, x_tup, x_fl, x_str, x_ref, x_dic, x_dicS, s_tup, s_str, s_fl, s_ref, i_len, i_int, i_intB, i_intS, i_abs, i_str, i_min, i_max, i_sum, i_all, i_any, i_list, i_tuple, n_tup, n_fl, n_ref, n_dic, l_fl, l_ref, e_tup, e_fl, e_ref, it_tup, it_fl, it_str, it_ref, k_app, k_ext, k_pop, k_split, k_part, k_join, m_app, m_ext, m_pop, m_split, m_part, m_join, k_cntT, k_cntS, k_sw, k_up, m_cntT, m_cntS, m_sw, m_up, i_rev, y_str, y_int, y_bl, y_non, y_tup, y_fl, y_ref, y_dic, t_bl, t_int, t_non, t_tup, t_fl, t_ref, g_nm, g_tp, setN0, setN1, wipe0, wipe1, stay0, stay1, at_0, at_1, at_2, at_3, at_4, at_5, at_last, ix_0, ix_1, ix_2, cut_init, new_at, new_at1, app_lt, put_at, put_ne, W_ok, W_nx, W_rt, W_bk, W_ct, W_bad, W_badS, List.getElem?_cons_zero, List.getElem?_cons_succ, List.set_cons_zero, List.set_cons_succ, if_true, if_false, Bool.false_eq_true, true_and, and_true, decide_eq_true_eq, decide_eq_false_iff_not, forall_const, not_true_eq_false, not_false_eq_true, false_implies, implies_true, Option.some.injEq, exists_eq_left', exists_eq_left, exists_and_left, fin_nx, fin_rt, fin_bk, fin_ct, fin_ex, Bool.not_eq_true', Bool.not_eq_false', Bool.true_eq_false, reduceCtorEq, D.bl.injEq, D.int.injEq, D.str.injEq, D.ref.injEq, D.tup.injEq, D.fl.injEq, Ob.lst.injEq, Ob.dic.injEq, List.length_map, List.length_append, List.length_cons, List.length_nil, Nat.reduceAdd, Nat.reduceLT, Nat.reduceLeDiff, Nat.zero_lt_succ, false_and, and_false, exists_false, ty_ne, eq_self, Int.cast_ofNat_Int, Int.reduceEq, Int.reduceLT, Int.reduceLE, decide_true, decide_false, ofString_inj, String.reduceEq, Option.map_some, Bool.not_true, Bool.not_false, true_implies, W_cons, W_nil, hg, hs]
  refine ⟨fun _ => ⟨by omega, ⟨by omega, by omega⟩, ⟨Int.fmod_nonneg_of_pos _ h0, Int.fmod_lt_of_pos _ h0⟩, ⟨_, _, _, hs _, hb0, hb1, hc0, by omega⟩, Fr.putIn Fr.refl List.mem_cons_self, List.length_set⟩, fun _ => ⟨.inl ⟨by omega, by omega⟩, ?_⟩⟩
  refine (mix_ok (by omega) (by omega)).imp ?_
  rintro _ _ ⟨rfl, i, rfl, hi⟩
  simp only [ex_some, W_var, W_cst, W_bin, W_neg, W_cmp, W_chn, W_and, W_or, W_not, W_ite, W_tup, W_lst, W_dic, W_ix, W_sl, W_fn, W_bi, W_me, W_isi, W_lc, W_a0, W_a1, W_o0, W_o1, W_c0, W_c1, W_iof, W_ir1, W_ir2, W_truR, W_blR, T_and, T_or, T_not, T_var, T_cst, T_cmp, T_chn, T_fn, T_bi, T_isi, S_asg, S_unp, S_set, S_augA, S_augS, S_ex, S_ret, S_retN, S_ife, S_whl, S_fr, S_pas, S_brk, S_cnt, S_rse, b_add, b_sub, b_mul, b_div, b_mod, b_pow, b_str, b_tup, b_ref, c_eq, c_ne, c_in, c_ni, c_lt, c_le, c_gt, c_ge, c_ltS, c_is, c_isN, c_isB, q_int, q_str, q_bl, q_is, q_si, x_tup, x_fl, x_str, x_ref, x_dic, x_dicS, s_tup, s_str, s_fl, s_ref, i_len, i_int, i_intB, i_intS, i_abs, i_str, i_min, i_max, i_sum, i_all, i_any, i_list, i_tuple, n_tup, n_fl, n_ref, n_dic, l_fl, l_ref, e_tup, e_fl, e_ref, it_tup, it_fl, it_str, it_ref, k_app, k_ext, k_pop, k_split, k_part, k_join, m_app, m_ext, m_pop, m_split, m_part, m_join, k_cntT, k_cntS, k_sw, k_up, m_cntT, m_cntS, m_sw, m_up, i_rev, y_str, y_int, y_bl, y_non, y_tup, y_fl, y_ref, y_dic, t_bl, t_int, t_non, t_tup, t_fl, t_ref, g_nm, g_tp, setN0, setN1, wipe0, wipe1, stay0, stay1, at_0, at_1, at_2, at_3, at_4, at_5, at_last, ix_0, ix_1, ix_2, cut_init, new_at, new_at1, app_lt, put_at, put_ne, W_ok, W_nx, W_rt, W_bk, W_ct, W_bad, W_badS, List.getElem?_cons_zero, List.getElem?_cons_succ, List.set_cons_zero, List.set_cons_succ, if_true, if_false, Bool.false_eq_true, true_and, and_true, decide_eq_true_eq, decide_eq_false_iff_not, forall_const, not_true_eq_false, not_false_eq_true, false_implies, implies_true, Option.some.injEq, exists_eq_left', exists_eq_left, exists_and_left, fin_nx, fin_rt, fin_bk, fin_ct, fin_ex, Bool.not_eq_true', Bool.not_eq_false', Bool.true_eq_false, reduceCtorEq, D.bl.injEq, D.int.injEq, D.str.injEq, D.ref.injEq, D.tup.injEq, D.fl.injEq, Ob.lst.injEq, Ob.dic.injEq, List.length_map, List.length_append, List.length_cons, List.length_nil, Nat.reduceAdd, Nat.reduceLT, Nat.reduceLeDiff, Nat.zero_lt_succ, false_and, and_false, exists_false, ty_ne, eq_self, Int.cast_ofNat_Int, Int.reduceEq, Int.reduceLT, Int.reduceLE, decide_true, decide_false, ofString_inj, String.reduceEq, Option.map_some, Bool.not_true, Bool.not_false, true_implies, W_cons, W_nil]
  exact ⟨⟨by omega, by omega⟩, by omega, ⟨Int.fmod_nonneg_of_pos _ h0, Int.fmod_lt_of_pos _ h0⟩, ⟨_, _, _, hs _, hb0, hb1, by omega, by omega⟩, Fr.putIn Fr.refl List.mem_cons_self, List.length_set⟩
end
/-! ### atoms -/
theorem lim_of {a : Nat} (h : a ≤ 1000) : a ≤ lim := Nat.le_trans h (by decide)
theorem lim_lt {a : Nat} (h : a ≤ 1000) : a < lim := Nat.lt_of_le_of_lt h (by decide)
/-- what stands ahead of a dot -/
structure Bs (b : Str) (n : Nat) : Prop where
  tx : Tx b n
  nd : 46 ∉ b.cps.toList
def txA (b : Str) (k : Int) : Str := if k = 0 then b else b ++ (Str.ofString ".") ++ Str.ofString (toString k)
def atD (b : Str) (k : Int) : D := .tup [.str (txA b k), .str b, .int k]
def Atm (d : D) : Prop := ∃ b k, d = atD b k ∧ Bs b 8 ∧ 0 ≤ k ∧ k ≤ 999999
theorem tx_dot : Tx (Str.ofString ".") 1 := Tx.lit (by decide)
theorem txA_tx {b : Str} {k : Int} (hb : Bs b 8) (h0 : 0 ≤ k) (h1 : k ≤ 999999) : Tx (txA b k) 16 := by
  unfold txA
  split
  · exact hb.tx.mono (by omega)
  · exact ((hb.tx.app tx_dot).app (Tx.numI (k := 6) (by omega) h0 (by omega))).mono (by omega)
section
variable {wf n : Nat} {E : Nat → Hd → Prop} {p N : Nat} {h : Hd}
theorem numbered_ok {b : Str} {k : Int} (hb : Bs b 8) (h0 : 0 ≤ k) (h1 : k ≤ 999999) : (callN P wf (n + 1) 10 [.str b, .int k] h).W E (fun d h' => h' = h ∧ d = atD b k) := by
  refine W_call P__law_numbered rfl ?_
  simp only [c__law_numbered, c__law_numbered_1, startD, List.map_cons, List.map_nil, List.length_cons, List.length_nil, List.replicate, List.cons_append, List.nil_append, Nat.reduceSub, Nat.reduceAdd]
  simp only [ex_some, W_var, W_cst, W_bin, W_neg, W_cmp, W_chn, W_and, W_or, W_not, W_ite, W_tup, W_lst, W_dic, W_ix, W_sl, W_fn, W_bi, W_me, W_isi, W_lc, W_a0, W_a1, W_o0, W_o1, W_c0, W_c1, W_iof, W_ir1, W_ir2, W_truR, W_blR, T_and, T_or, T_not, T_var, T_cst, T_cmp, T_chn, T_fn, T_bi, T_isi, S_asg, S_unp, S_set, S_augA, S_augS, S_ex, S_ret, S_retN, S_ife, S_whl, S_fr, S_pas, S_brk, S_cnt, S_rse, b_add, b_sub, b_mul, b_div, b_mod, b_pow, b_str, b_tup, b_ref, c_eq, c_ne, c_in, c_ni, c_lt, c_le, c_gt, c_ge, c_ltS, c_is, c_isN, c_isB, q_int, q_str, q_bl, q_is, q_si, x_tup, x_fl, x_str, x_ref, x_dic, x_dicS, s_tup, s_str, s_fl, s_ref, i_len, i_int, i_intB, i_intS, i_abs, i_str, i_min, i_max, i_sum, i_all, i_any, i_list, i_tuple, n_tup, n_fl, n_ref, n_dic, l_fl, l_ref, e_tup, e_fl, e_ref, it_tup, it_fl, it_str, it_ref, k_app, k_ext, k_pop, k_split, k_part, k_join, m_app, m_ext, m_pop, m_split, m_part, m_join, k_cntT, k_cntS, k_sw, k_up, m_cntT, m_cntS, m_sw, m_up, i_rev, y_str, y_int, y_bl, y_non, y_tup, y_fl, y_ref, y_dic, t_bl, t_int, t_non, t_tup, t_fl, t_ref, g_nm, g_tp, setN0, setN1, wipe0, wipe1, stay0, stay1, at_0, at_1, at_2, at_3, at_4, at_5, at_last, ix_0, ix_1, ix_2, cut_init, new_at, new_at1, app_lt, put_at, put_ne, W_ok, W_nx, W_rt, W_bk, W_ct, W_bad, W_badS, List.getElem?_cons_zero, List.getElem?_cons_succ, List.set_cons_zero, List.set_cons_succ, if_true, if_false, Bool.false_eq_true, true_and, and_true, decide_eq_true_eq, decide_eq_false_iff_not, forall_const, not_true_eq_false, not_false_eq_true, false_implies, implies_true, Option.some.injEq, exists_eq_left', exists_eq_left, exists_and_left, fin_nx, fin_rt, fin_bk, fin_ct, fin_ex, Bool.not_eq_true', Bool.not_eq_false', Bool.true_eq_false, reduceCtorEq, D.bl.injEq, D.int.injEq, D.str.injEq, D.ref.injEq, D.tup.injEq, D.fl.injEq, Ob.lst.injEq, Ob.dic.injEq, List.length_map, List.length_append, List.length_cons, List.length_nil, Nat.reduceAdd, Nat.reduceLT, Nat.reduceLeDiff, Nat.zero_lt_succ, false_and, and_false, exists_false, ty_ne, eq_self, Int.cast_ofNat_Int, Int.reduceEq, Int.reduceLT, Int.reduceLE, decide_true, decide_false, ofString_inj, String.reduceEq, Option.map_some, Bool.not_true, Bool.not_false, true_implies, W_cons, W_nil]
  refine ⟨fun e => ⟨by decide, ?_⟩, fun e => ⟨lim_app hb.tx tx_dot (by omega), log_small h0 (by omega), lim_app (hb.tx.app tx_dot) (Tx.numI (k := 6) (by omega) h0 (by omega)) (by omega), by decide, ?_⟩⟩
  · subst e; rfl
  · simp only [atD, txA, if_neg e]
theorem pick_nd {s : Str} {v : Int} (hs : strOk s = true) (hd : 46 ∉ s.cps.toList) (h0 : 0 ≤ v) (h1 : v < s.length) : ∃ c, atI s.cps.toList v = some c ∧ Bs ⟨#[c]⟩ 1 := by
  obtain ⟨c, e1, e2⟩ := atI_of (xs := s.cps.toList) h0 (by rw [Array.length_toList]; exact h1)
  have m := List.mem_of_getElem? e2
  exact ⟨c, e1, Tx.one (ok_iff.mp hs c m), by
    intro z
    simp at z
    exact hd (by rw [z]; exact m)⟩
theorem Bs.app {a b : Str} {n m : Nat} (x : Bs a n) (y : Bs b m) : Bs (a ++ b) (n + m) := ⟨x.tx.app y.tx, by
  rw [show (a ++ b).cps.toList = a.cps.toList ++ b.cps.toList from by show (a.cps ++ b.cps).toList = _; simp]
  intro z
  rcases List.mem_append.mp z with z | z
  · exact x.nd z
  · exact y.nd z⟩
theorem Bs.mono {b : Str} {n m : Nat} (x : Bs b n) (h : n ≤ m) : Bs b m := ⟨x.tx.mono h, x.nd⟩
theorem fresh_ok (hp : Pool h p N) (hN : N + 12 ≤ 1000000) : (callN P wf (n + 3) 11 [.ref p] h).W E (fun d h' => Atm d ∧ Pool h' p (N + 12) ∧ Eg.Fr [p] h h') := by
  refine W_call P__law_fresh rfl ?_
  simp only [c__law_fresh, c__law_fresh_1, c__law_fresh_2, startD, List.map_cons, List.map_nil, List.length_cons, List.length_nil, List.replicate, List.cons_append, List.nil_append, Nat.reduceSub, Nat.reduceAdd]
  rw [W_cons]
  simp only [ex_some, W_var, W_cst, W_bin, W_neg, W_cmp, W_chn, W_and, W_or, W_not, W_ite, W_tup, W_lst, W_dic, W_ix, W_sl, W_fn, W_bi, W_me, W_isi, W_lc, W_a0, W_a1, W_o0, W_o1, W_c0, W_c1, W_iof, W_ir1, W_ir2, W_truR, W_blR, T_and, T_or, T_not, T_var, T_cst, T_cmp, T_chn, T_fn, T_bi, T_isi, S_asg, S_unp, S_set, S_augA, S_augS, S_ex, S_ret, S_retN, S_ife, S_whl, S_fr, S_pas, S_brk, S_cnt, S_rse, b_add, b_sub, b_mul, b_div, b_mod, b_pow, b_str, b_tup, b_ref, c_eq, c_ne, c_in, c_ni, c_lt, c_le, c_gt, c_ge, c_ltS, c_is, c_isN, c_isB, q_int, q_str, q_bl, q_is, q_si, x_tup, x_fl, x_str, x_ref, x_dic, x_dicS, s_tup, s_str, s_fl, s_ref, i_len, i_int, i_intB, i_intS, i_abs, i_str, i_min, i_max, i_sum, i_all, i_any, i_list, i_tuple, n_tup, n_fl, n_ref, n_dic, l_fl, l_ref, e_tup, e_fl, e_ref, it_tup, it_fl, it_str, it_ref, k_app, k_ext, k_pop, k_split, k_part, k_join, m_app, m_ext, m_pop, m_split, m_part, m_join, k_cntT, k_cntS, k_sw, k_up, m_cntT, m_cntS, m_sw, m_up, i_rev, y_str, y_int, y_bl, y_non, y_tup, y_fl, y_ref, y_dic, t_bl, t_int, t_non, t_tup, t_fl, t_ref, g_nm, g_tp, setN0, setN1, wipe0, wipe1, stay0, stay1, at_0, at_1, at_2, at_3, at_4, at_5, at_last, ix_0, ix_1, ix_2, cut_init, new_at, new_at1, app_lt, put_at, put_ne, W_ok, W_nx, W_rt, W_bk, W_ct, W_bad, W_badS, List.getElem?_cons_zero, List.getElem?_cons_succ, List.set_cons_zero, List.set_cons_succ, if_true, if_false, Bool.false_eq_true, true_and, and_true, decide_eq_true_eq, decide_eq_false_iff_not, forall_const, not_true_eq_false, not_false_eq_true, false_implies, implies_true, Option.some.injEq, exists_eq_left', exists_eq_left, exists_and_left, fin_nx, fin_rt, fin_bk, fin_ct, fin_ex, Bool.not_eq_true', Bool.not_eq_false', Bool.true_eq_false, reduceCtorEq, D.bl.injEq, D.int.injEq, D.str.injEq, D.ref.injEq, D.tup.injEq, D.fl.injEq, Ob.lst.injEq, Ob.dic.injEq, List.length_map, List.length_append, List.length_cons, List.length_nil, Nat.reduceAdd, Nat.reduceLT, Nat.reduceLeDiff, Nat.zero_lt_succ, false_and, and_false, exists_false, ty_ne, eq_self, Int.cast_ofNat_Int, Int.reduceEq, Int.reduceLT, Int.reduceLE, decide_true, decide_false, ofString_inj, String.reduceEq, Option.map_some, Bool.not_true, Bool.not_false, true_implies]
  rw [W_cons]
  simp only [ex_some, W_var, W_cst, W_bin, W_neg, W_cmp, W_chn, W_and, W_or, W_not, W_ite, W_tup, W_lst, W_dic, W_ix, W_sl, W_fn, W_bi, W_me, W_isi, W_lc, W_a0, W_a1, W_o0, W_o1, W_c0, W_c1, W_iof, W_ir1, W_ir2, W_truR, W_blR, T_and, T_or, T_not, T_var, T_cst, T_cmp, T_chn, T_fn, T_bi, T_isi, S_asg, S_unp, S_set, S_augA, S_augS, S_ex, S_ret, S_retN, S_ife, S_whl, S_fr, S_pas, S_brk, S_cnt, S_rse, b_add, b_sub, b_mul, b_div, b_mod, b_pow, b_str, b_tup, b_ref, c_eq, c_ne, c_in, c_ni, c_lt, c_le, c_gt, c_ge, c_ltS, c_is, c_isN, c_isB, q_int, q_str, q_bl, q_is, q_si, x_tup, x_fl, x_str, x_ref, x_dic, x_dicS, s_tup, s_str, s_fl, s_ref, i_len, i_int, i_intB, i_intS, i_abs, i_str, i_min, i_max, i_sum, i_all, i_any, i_list, i_tuple, n_tup, n_fl, n_ref, n_dic, l_fl, l_ref, e_tup, e_fl, e_ref, it_tup, it_fl, it_str, it_ref, k_app, k_ext, k_pop, k_split, k_part, k_join, m_app, m_ext, m_pop, m_split, m_part, m_join, k_cntT, k_cntS, k_sw, k_up, m_cntT, m_cntS, m_sw, m_up, i_rev, y_str, y_int, y_bl, y_non, y_tup, y_fl, y_ref, y_dic, t_bl, t_int, t_non, t_tup, t_fl, t_ref, g_nm, g_tp, setN0, setN1, wipe0, wipe1, stay0, stay1, at_0, at_1, at_2, at_3, at_4, at_5, at_last, ix_0, ix_1, ix_2, cut_init, new_at, new_at1, app_lt, put_at, put_ne, W_ok, W_nx, W_rt, W_bk, W_ct, W_bad, W_badS, List.getElem?_cons_zero, List.getElem?_cons_succ, List.set_cons_zero, List.set_cons_succ, if_true, if_false, Bool.false_eq_true, true_and, and_true, decide_eq_true_eq, decide_eq_false_iff_not, forall_const, not_true_eq_false, not_false_eq_true, false_implies, implies_true, Option.some.injEq, exists_eq_left', exists_eq_left, exists_and_left, fin_nx, fin_rt, fin_bk, fin_ct, fin_ex, Bool.not_eq_true', Bool.not_eq_false', Bool.true_eq_false, reduceCtorEq, D.bl.injEq, D.int.injEq, D.str.injEq, D.ref.injEq, D.tup.injEq, D.fl.injEq, Ob.lst.injEq, Ob.dic.injEq, List.length_map, List.length_append, List.length_cons, List.length_nil, Nat.reduceAdd, Nat.reduceLT, Nat.reduceLeDiff, Nat.zero_lt_succ, false_and, and_false, exists_false, ty_ne, eq_self, Int.cast_ofNat_Int, Int.reduceEq, Int.reduceLT, Int.reduceLE, decide_true, decide_false, ofString_inj, String.reduceEq, Option.map_some, Bool.not_true, Bool.not_false, true_implies]
  refine (draw_ok hp (by omega) (by omega) (by omega)).imp ?_
  rintro _ h1 ⟨⟨v, rfl, v0, v1⟩, p1, f1, l1⟩
  obtain ⟨c, ec, tc⟩ := pick_nd (s := Str.ofString "abcdefghijklmnopqrstuvwxyz") (ok_lit _) (by decide) v0 (by rw [len_lit]; exact v1)
  simp only [ex_some, W_var, W_cst, W_bin, W_neg, W_cmp, W_chn, W_and, W_or, W_not, W_ite, W_tup, W_lst, W_dic, W_ix, W_sl, W_fn, W_bi, W_me, W_isi, W_lc, W_a0, W_a1, W_o0, W_o1, W_c0, W_c1, W_iof, W_ir1, W_ir2, W_truR, W_blR, T_and, T_or, T_not, T_var, T_cst, T_cmp, T_chn, T_fn, T_bi, T_isi, S_asg, S_unp, S_set, S_augA, S_augS, S_ex, S_ret, S_retN, S_ife, S_whl, S_fr, S_pas, S_brk, S_cnt, S_rse, b_add, b_sub, b_mul, b_div, b_mod, b_pow, b_str, b_tup, b_ref, c_eq, c_ne, c_in, c_ni, c_lt, c_le, c_gt, c_ge, c_ltS, c_is, c_isN, c_isB, q_int, q_str, q_bl, q_is, q_si, x_tup, x_fl, x_str, x_ref, x_dic, x_dicS, s_tup, s_str, s_fl, s_ref, i_len, i_int, i_intB, i_intS, i_abs, i_str, i_min, i_max, i_sum, i_all, i_any, i_list, i_tuple, n_tup, n_fl, n_ref, n_dic, l_fl, l_ref, e_tup, e_fl, e_ref, it_tup, it_fl, it_str, it_ref, k_app, k_ext, k_pop, k_split, k_part, k_join, m_app, m_ext, m_pop, m_split, m_part, m_join, k_cntT, k_cntS, k_sw, k_up, m_cntT, m_cntS, m_sw, m_up, i_rev, y_str, y_int, y_bl, y_non, y_tup, y_fl, y_ref, y_dic, t_bl, t_int, t_non, t_tup, t_fl, t_ref, g_nm, g_tp, setN0, setN1, wipe0, wipe1, stay0, stay1, at_0, at_1, at_2, at_3, at_4, at_5, at_last, ix_0, ix_1, ix_2, cut_init, new_at, new_at1, app_lt, put_at, put_ne, W_ok, W_nx, W_rt, W_bk, W_ct, W_bad, W_badS, List.getElem?_cons_zero, List.getElem?_cons_succ, List.set_cons_zero, List.set_cons_succ, if_true, if_false, Bool.false_eq_true, true_and, and_true, decide_eq_true_eq, decide_eq_false_iff_not, forall_const, not_true_eq_false, not_false_eq_true, false_implies, implies_true, Option.some.injEq, exists_eq_left', exists_eq_left, exists_and_left, fin_nx, fin_rt, fin_bk, fin_ct, fin_ex, Bool.not_eq_true', Bool.not_eq_false', Bool.true_eq_false, reduceCtorEq, D.bl.injEq, D.int.injEq, D.str.injEq, D.ref.injEq, D.tup.injEq, D.fl.injEq, Ob.lst.injEq, Ob.dic.injEq, List.length_map, List.length_append, List.length_cons, List.length_nil, Nat.reduceAdd, Nat.reduceLT, Nat.reduceLeDiff, Nat.zero_lt_succ, false_and, and_false, exists_false, ty_ne, eq_self, Int.cast_ofNat_Int, Int.reduceEq, Int.reduceLT, Int.reduceLE, decide_true, decide_false, ofString_inj, String.reduceEq, Option.map_some, Bool.not_true, Bool.not_false, true_implies]
  refine ⟨by decide, c, ec, ?_⟩
  rw [W_cons]
  simp only [ex_some, W_var, W_cst, W_bin, W_neg, W_cmp, W_chn, W_and, W_or, W_not, W_ite, W_tup, W_lst, W_dic, W_ix, W_sl, W_fn, W_bi, W_me, W_isi, W_lc, W_a0, W_a1, W_o0, W_o1, W_c0, W_c1, W_iof, W_ir1, W_ir2, W_truR, W_blR, T_and, T_or, T_not, T_var, T_cst, T_cmp, T_chn, T_fn, T_bi, T_isi, S_asg, S_unp, S_set, S_augA, S_augS, S_ex, S_ret, S_retN, S_ife, S_whl, S_fr, S_pas, S_brk, S_cnt, S_rse, b_add, b_sub, b_mul, b_div, b_mod, b_pow, b_str, b_tup, b_ref, c_eq, c_ne, c_in, c_ni, c_lt, c_le, c_gt, c_ge, c_ltS, c_is, c_isN, c_isB, q_int, q_str, q_bl, q_is, q_si, x_tup, x_fl, x_str, x_ref, x_dic, x_dicS, s_tup, s_str, s_fl, s_ref, i_len, i_int, i_intB, i_intS, i_abs, i_str, i_min, i_max, i_sum, i_all, i_any, i_list, i_tuple, n_tup, n_fl, n_ref, n_dic, l_fl, l_ref, e_tup, e_fl, e_ref, it_tup, it_fl, it_str, it_ref, k_app, k_ext, k_pop, k_split, k_part, k_join, m_app, m_ext, m_pop, m_split, m_part, m_join, k_cntT, k_cntS, k_sw, k_up, m_cntT, m_cntS, m_sw, m_up, i_rev, y_str, y_int, y_bl, y_non, y_tup, y_fl, y_ref, y_dic, t_bl, t_int, t_non, t_tup, t_fl, t_ref, g_nm, g_tp, setN0, setN1, wipe0, wipe1, stay0, stay1, at_0, at_1, at_2, at_3, at_4, at_5, at_last, ix_0, ix_1, ix_2, cut_init, new_at, new_at1, app_lt, put_at, put_ne, W_ok, W_nx, W_rt, W_bk, W_ct, W_bad, W_badS, List.getElem?_cons_zero, List.getElem?_cons_succ, List.set_cons_zero, List.set_cons_succ, if_true, if_false, Bool.false_eq_true, true_and, and_true, decide_eq_true_eq, decide_eq_false_iff_not, forall_const, not_true_eq_false, not_false_eq_true, false_implies, implies_true, Option.some.injEq, exists_eq_left', exists_eq_left, exists_and_left, fin_nx, fin_rt, fin_bk, fin_ct, fin_ex, Bool.not_eq_true', Bool.not_eq_false', Bool.true_eq_false, reduceCtorEq, D.bl.injEq, D.int.injEq, D.str.injEq, D.ref.injEq, D.tup.injEq, D.fl.injEq, Ob.lst.injEq, Ob.dic.injEq, List.length_map, List.length_append, List.length_cons, List.length_nil, Nat.reduceAdd, Nat.reduceLT, Nat.reduceLeDiff, Nat.zero_lt_succ, false_and, and_false, exists_false, ty_ne, eq_self, Int.cast_ofNat_Int, Int.reduceEq, Int.reduceLT, Int.reduceLE, decide_true, decide_false, ofString_inj, String.reduceEq, Option.map_some, Bool.not_true, Bool.not_false, true_implies]
  refine ⟨by decide, ?_⟩
  refine (draw_ok (p1.fr (ps := []) Fr.new List.not_mem_nil) (by omega) (by omega) (by omega)).imp ?_
  rintro _ h2 ⟨⟨w, rfl, w0, w1⟩, p2, f2, l2⟩
  have hl : h2[h1.length]? = some (.lst [.int 0, .int 0, .int 1, .int 7, .int 0, .int 2, .int 3, .int 5, .int 4, .int 6]) := f2.at new_at (by have := p1.lt; simp; omega)
  simp only [ex_some, W_var, W_cst, W_bin, W_neg, W_cmp, W_chn, W_and, W_or, W_not, W_ite, W_tup, W_lst, W_dic, W_ix, W_sl, W_fn, W_bi, W_me, W_isi, W_lc, W_a0, W_a1, W_o0, W_o1, W_c0, W_c1, W_iof, W_ir1, W_ir2, W_truR, W_blR, T_and, T_or, T_not, T_var, T_cst, T_cmp, T_chn, T_fn, T_bi, T_isi, S_asg, S_unp, S_set, S_augA, S_augS, S_ex, S_ret, S_retN, S_ife, S_whl, S_fr, S_pas, S_brk, S_cnt, S_rse, b_add, b_sub, b_mul, b_div, b_mod, b_pow, b_str, b_tup, b_ref, c_eq, c_ne, c_in, c_ni, c_lt, c_le, c_gt, c_ge, c_ltS, c_is, c_isN, c_isB, q_int, q_str, q_bl, q_is, q_si, x_tup, x_fl, x_str, x_ref, x_dic, x_dicS, s_tup, s_str, s_fl, s_ref, i_len, i_int, i_intB, i_intS, i_abs, i_str, i_min, i_max, i_sum, i_all, i_any, i_list, i_tuple, n_tup, n_fl, n_ref, n_dic, l_fl, l_ref, e_tup, e_fl, e_ref, it_tup, it_fl, it_str, it_ref, k_app, k_ext, k_pop, k_split, k_part, k_join, m_app, m_ext, m_pop, m_split, m_part, m_join, k_cntT, k_cntS, k_sw, k_up, m_cntT, m_cntS, m_sw, m_up, i_rev, y_str, y_int, y_bl, y_non, y_tup, y_fl, y_ref, y_dic, t_bl, t_int, t_non, t_tup, t_fl, t_ref, g_nm, g_tp, setN0, setN1, wipe0, wipe1, stay0, stay1, at_0, at_1, at_2, at_3, at_4, at_5, at_last, ix_0, ix_1, ix_2, cut_init, new_at, new_at1, app_lt, put_at, put_ne, W_ok, W_nx, W_rt, W_bk, W_ct, W_bad, W_badS, List.getElem?_cons_zero, List.getElem?_cons_succ, List.set_cons_zero, List.set_cons_succ, if_true, if_false, Bool.false_eq_true, true_and, and_true, decide_eq_true_eq, decide_eq_false_iff_not, forall_const, not_true_eq_false, not_false_eq_true, false_implies, implies_true, Option.some.injEq, exists_eq_left', exists_eq_left, exists_and_left, fin_nx, fin_rt, fin_bk, fin_ct, fin_ex, Bool.not_eq_true', Bool.not_eq_false', Bool.true_eq_false, reduceCtorEq, D.bl.injEq, D.int.injEq, D.str.injEq, D.ref.injEq, D.tup.injEq, D.fl.injEq, Ob.lst.injEq, Ob.dic.injEq, List.length_map, List.length_append, List.length_cons, List.length_nil, Nat.reduceAdd, Nat.reduceLT, Nat.reduceLeDiff, Nat.zero_lt_succ, false_and, and_false, exists_false, ty_ne, eq_self, Int.cast_ofNat_Int, Int.reduceEq, Int.reduceLT, Int.reduceLE, decide_true, decide_false, ofString_inj, String.reduceEq, Option.map_some, Bool.not_true, Bool.not_false, true_implies, hl]
  obtain ⟨d, ed, ed2⟩ := atI_of (xs := [D.int 0, D.int 0, D.int 1, D.int 7, D.int 0, D.int 2, D.int 3, D.int 5, D.int 4, D.int 6]) w0 w1
  obtain ⟨j, rfl, j0, j1⟩ : ∃ j : Int, d = .int j ∧ 0 ≤ j ∧ j ≤ 7 := by
    have m := List.mem_of_getElem? ed2
    simp only [List.mem_cons, List.not_mem_nil, or_false] at m
    rcases m with rfl | rfl | rfl | rfl | rfl | rfl | rfl | rfl | rfl | rfl <;> exact ⟨_, rfl, by omega, by omega⟩
  refine ⟨_, ed, j, rfl, ⟨by omega, by omega⟩, ?_⟩
  have f3 : Eg.Fr [p] h h2 := f1.trans (Fr.new.trans f2)
  refine W_for (fun i σ h' => ∃ s y, σ = [some (.ref p), some (.str "abcdefghijklmnopqrstuvwxyz"), some (.str s), y, none] ∧ Bs s (1 + i) ∧ Pool h' p (N + 2 + i) ∧ Eg.Fr [p] h h') ⟨_, _, rfl, tc, p2, f3⟩ ?_ ?_
  · rintro i d σ h' e ⟨s, y, rfl, ts, pp, ff⟩
    obtain ⟨hi, rfl⟩ := rng_get e
    refine ⟨_, rfl, ?_⟩
    simp only [ex_some, W_var, W_cst, W_bin, W_neg, W_cmp, W_chn, W_and, W_or, W_not, W_ite, W_tup, W_lst, W_dic, W_ix, W_sl, W_fn, W_bi, W_me, W_isi, W_lc, W_a0, W_a1, W_o0, W_o1, W_c0, W_c1, W_iof, W_ir1, W_ir2, W_truR, W_blR, T_and, T_or, T_not, T_var, T_cst, T_cmp, T_chn, T_fn, T_bi, T_isi, S_asg, S_unp, S_set, S_augA, S_augS, S_ex, S_ret, S_retN, S_ife, S_whl, S_fr, S_pas, S_brk, S_cnt, S_rse, b_add, b_sub, b_mul, b_div, b_mod, b_pow, b_str, b_tup, b_ref, c_eq, c_ne, c_in, c_ni, c_lt, c_le, c_gt, c_ge, c_ltS, c_is, c_isN, c_isB, q_int, q_str, q_bl, q_is, q_si, x_tup, x_fl, x_str, x_ref, x_dic, x_dicS, s_tup, s_str, s_fl, s_ref, i_len, i_int, i_intB, i_intS, i_abs, i_str, i_min, i_max, i_sum, i_all, i_any, i_list, i_tuple, n_tup, n_fl, n_ref, n_dic, l_fl, l_ref, e_tup, e_fl, e_ref, it_tup, it_fl, it_str, it_ref, k_app, k_ext, k_pop, k_split, k_part, k_join, m_app, m_ext, m_pop, m_split, m_part, m_join, k_cntT, k_cntS, k_sw, k_up, m_cntT, m_cntS, m_sw, m_up, i_rev, y_str, y_int, y_bl, y_non, y_tup, y_fl, y_ref, y_dic, t_bl, t_int, t_non, t_tup, t_fl, t_ref, g_nm, g_tp, setN0, setN1, wipe0, wipe1, stay0, stay1, at_0, at_1, at_2, at_3, at_4, at_5, at_last, ix_0, ix_1, ix_2, cut_init, new_at, new_at1, app_lt, put_at, put_ne, W_ok, W_nx, W_rt, W_bk, W_ct, W_bad, W_badS, List.getElem?_cons_zero, List.getElem?_cons_succ, List.set_cons_zero, List.set_cons_succ, if_true, if_false, Bool.false_eq_true, true_and, and_true, decide_eq_true_eq, decide_eq_false_iff_not, forall_const, not_true_eq_false, not_false_eq_true, false_implies, implies_true, Option.some.injEq, exists_eq_left', exists_eq_left, exists_and_left, fin_nx, fin_rt, fin_bk, fin_ct, fin_ex, Bool.not_eq_true', Bool.not_eq_false', Bool.true_eq_false, reduceCtorEq, D.bl.injEq, D.int.injEq, D.str.injEq, D.ref.injEq, D.tup.injEq, D.fl.injEq, Ob.lst.injEq, Ob.dic.injEq, List.length_map, List.length_append, List.length_cons, List.length_nil, Nat.reduceAdd, Nat.reduceLT, Nat.reduceLeDiff, Nat.zero_lt_succ, false_and, and_false, exists_false, ty_ne, eq_self, Int.cast_ofNat_Int, Int.reduceEq, Int.reduceLT, Int.reduceLE, decide_true, decide_false, ofString_inj, String.reduceEq, Option.map_some, Bool.not_true, Bool.not_false, true_implies, W_cons, W_nil]
    refine ⟨by decide, ?_⟩
    refine (draw_ok pp (by omega) (by omega) (by omega)).imp ?_
    rintro _ h3 ⟨⟨u, rfl, u0, u1⟩, p3, f3, l3⟩
    obtain ⟨c, ec, tc⟩ := pick_nd (s := Str.ofString "abcdefghijklmnopqrstuvwxyz" ++ Str.ofString "0123456789") (((Tx.lit (Nat.le_refl _)).app (Tx.lit (Nat.le_refl _))).ok) (by decide) u0 (by rw [len_app, len_lit, len_lit]; exact u1)
    simp only [ex_some, W_var, W_cst, W_bin, W_neg, W_cmp, W_chn, W_and, W_or, W_not, W_ite, W_tup, W_lst, W_dic, W_ix, W_sl, W_fn, W_bi, W_me, W_isi, W_lc, W_a0, W_a1, W_o0, W_o1, W_c0, W_c1, W_iof, W_ir1, W_ir2, W_truR, W_blR, T_and, T_or, T_not, T_var, T_cst, T_cmp, T_chn, T_fn, T_bi, T_isi, S_asg, S_unp, S_set, S_augA, S_augS, S_ex, S_ret, S_retN, S_ife, S_whl, S_fr, S_pas, S_brk, S_cnt, S_rse, b_add, b_sub, b_mul, b_div, b_mod, b_pow, b_str, b_tup, b_ref, c_eq, c_ne, c_in, c_ni, c_lt, c_le, c_gt, c_ge, c_ltS, c_is, c_isN, c_isB, q_int, q_str, q_bl, q_is, q_si, x_tup, x_fl, x_str, x_ref, x_dic, x_dicS, s_tup, s_str, s_fl, s_ref, i_len, i_int, i_intB, i_intS, i_abs, i_str, i_min, i_max, i_sum, i_all, i_any, i_list, i_tuple, n_tup, n_fl, n_ref, n_dic, l_fl, l_ref, e_tup, e_fl, e_ref, it_tup, it_fl, it_str, it_ref, k_app, k_ext, k_pop, k_split, k_part, k_join, m_app, m_ext, m_pop, m_split, m_part, m_join, k_cntT, k_cntS, k_sw, k_up, m_cntT, m_cntS, m_sw, m_up, i_rev, y_str, y_int, y_bl, y_non, y_tup, y_fl, y_ref, y_dic, t_bl, t_int, t_non, t_tup, t_fl, t_ref, g_nm, g_tp, setN0, setN1, wipe0, wipe1, stay0, stay1, at_0, at_1, at_2, at_3, at_4, at_5, at_last, ix_0, ix_1, ix_2, cut_init, new_at, new_at1, app_lt, put_at, put_ne, W_ok, W_nx, W_rt, W_bk, W_ct, W_bad, W_badS, List.getElem?_cons_zero, List.getElem?_cons_succ, List.set_cons_zero, List.set_cons_succ, if_true, if_false, Bool.false_eq_true, true_and, and_true, decide_eq_true_eq, decide_eq_false_iff_not, forall_const, not_true_eq_false, not_false_eq_true, false_implies, implies_true, Option.some.injEq, exists_eq_left', exists_eq_left, exists_and_left, fin_nx, fin_rt, fin_bk, fin_ct, fin_ex, Bool.not_eq_true', Bool.not_eq_false', Bool.true_eq_false, reduceCtorEq, D.bl.injEq, D.int.injEq, D.str.injEq, D.ref.injEq, D.tup.injEq, D.fl.injEq, Ob.lst.injEq, Ob.dic.injEq, List.length_map, List.length_append, List.length_cons, List.length_nil, Nat.reduceAdd, Nat.reduceLT, Nat.reduceLeDiff, Nat.zero_lt_succ, false_and, and_false, exists_false, ty_ne, eq_self, Int.cast_ofNat_Int, Int.reduceEq, Int.reduceLT, Int.reduceLE, decide_true, decide_false, ofString_inj, String.reduceEq, Option.map_some, Bool.not_true, Bool.not_false, true_implies, W_cons, W_nil]
    exact ⟨by decide, c, ec, lim_app ts.tx tc.tx (by omega), _, _, rfl, (ts.app tc).mono (by omega), p3, ff.trans f3⟩
  · rintro σ h' ⟨s, y, rfl, ts, pp, ff⟩
    rw [rng_len] at ts pp
    have tb : Bs s 8 := ts.mono (by omega)
    dsimp only
    simp only [c__law_fresh_3, c__law_fresh_4, c__law_fresh_5, c__law_fresh_6]
    simp only [ex_some, W_var, W_cst, W_bin, W_neg, W_cmp, W_chn, W_and, W_or, W_not, W_ite, W_tup, W_lst, W_dic, W_ix, W_sl, W_fn, W_bi, W_me, W_isi, W_lc, W_a0, W_a1, W_o0, W_o1, W_c0, W_c1, W_iof, W_ir1, W_ir2, W_truR, W_blR, T_and, T_or, T_not, T_var, T_cst, T_cmp, T_chn, T_fn, T_bi, T_isi, S_asg, S_unp, S_set, S_augA, S_augS, S_ex, S_ret, S_retN, S_ife, S_whl, S_fr, S_pas, S_brk, S_cnt, S_rse, b_add, b_sub, b_mul, b_div, b_mod, b_pow, b_str, b_tup, b_ref, c_eq, c_ne, c_in, c_ni, c_lt, c_le, c_gt, c_ge, c_ltS, c_is, c_isN, c_isB, q_int, q_str, q_bl, q_is, q_si, x_tup, x_fl, x_str, x_ref, x_dic, x_dicS, s_tup, s_str, s_fl, s_ref, i_len, i_int, i_intB, i_intS, i_abs, i_str, i_min, i_max, i_sum, i_all, i_any, i_list, i_tuple, n_tup, n_fl, n_ref, n_dic, l_fl, l_ref, e_tup, e_fl, e_ref, it_tup, it_fl, it_str, it_ref, k_app, k_ext, k_pop, k_split, k_part, k_join, m_app, m_ext, m_pop, m_split, m_part, m_join, k_cntT, k_cntS, k_sw, k_up, m_cntT, m_cntS, m_sw, m_up, i_rev, y_str, y_int, y_bl, y_non, y_tup, y_fl, y_ref, y_dic, t_bl, t_int, t_non, t_tup, t_fl, t_ref, g_nm, g_tp, setN0, setN1, wipe0, wipe1, stay0, stay1, at_0, at_1, at_2, at_3, at_4, at_5, at_last, ix_0, ix_1, ix_2, cut_init, new_at, new_at1, app_lt, put_at, put_ne, W_ok, W_nx, W_rt, W_bk, W_ct, W_bad, W_badS, List.getElem?_cons_zero, List.getElem?_cons_succ, List.set_cons_zero, List.set_cons_succ, if_true, if_false, Bool.false_eq_true, true_and, and_true, decide_eq_true_eq, decide_eq_false_iff_not, forall_const, not_true_eq_false, not_false_eq_true, false_implies, implies_true, Option.some.injEq, exists_eq_left', exists_eq_left, exists_and_left, fin_nx, fin_rt, fin_bk, fin_ct, fin_ex, Bool.not_eq_true', Bool.not_eq_false', Bool.true_eq_false, reduceCtorEq, D.bl.injEq, D.int.injEq, D.str.injEq, D.ref.injEq, D.tup.injEq, D.fl.injEq, Ob.lst.injEq, Ob.dic.injEq, List.length_map, List.length_append, List.length_cons, List.length_nil, Nat.reduceAdd, Nat.reduceLT, Nat.reduceLeDiff, Nat.zero_lt_succ, false_and, and_false, exists_false, ty_ne, eq_self, Int.cast_ofNat_Int, Int.reduceEq, Int.reduceLT, Int.reduceLE, decide_true, decide_false, ofString_inj, String.reduceEq, Option.map_some, Bool.not_true, Bool.not_false, true_implies, W_cons, W_nil]
    refine (draw_ok pp (by omega) (by omega) (by omega)).imp ?_
    rintro _ h3 ⟨⟨u, rfl, u0, u1⟩, p3, f3, l3⟩
    simp only [ex_some, W_var, W_cst, W_bin, W_neg, W_cmp, W_chn, W_and, W_or, W_not, W_ite, W_tup, W_lst, W_dic, W_ix, W_sl, W_fn, W_bi, W_me, W_isi, W_lc, W_a0, W_a1, W_o0, W_o1, W_c0, W_c1, W_iof, W_ir1, W_ir2, W_truR, W_blR, T_and, T_or, T_not, T_var, T_cst, T_cmp, T_chn, T_fn, T_bi, T_isi, S_asg, S_unp, S_set, S_augA, S_augS, S_ex, S_ret, S_retN, S_ife, S_whl, S_fr, S_pas, S_brk, S_cnt, S_rse, b_add, b_sub, b_mul, b_div, b_mod, b_pow, b_str, b_tup, b_ref, c_eq, c_ne, c_in, c_ni, c_lt, c_le, c_gt, c_ge, c_ltS, c_is, c_isN, c_isB, q_int, q_str, q_bl, q_is, q_si, x_tup, x_fl, x_str, x_ref, x_dic, x_dicS, s_tup, s_str, s_fl, s_ref, i_len, i_int, i_intB, i_intS, i_abs, i_str, i_min, i_max, i_sum, i_all, i_any, i_list, i_tuple, n_tup, n_fl, n_ref, n_dic, l_fl, l_ref, e_tup, e_fl, e_ref, it_tup, it_fl, it_str, it_ref, k_app, k_ext, k_pop, k_split, k_part, k_join, m_app, m_ext, m_pop, m_split, m_part, m_join, k_cntT, k_cntS, k_sw, k_up, m_cntT, m_cntS, m_sw, m_up, i_rev, y_str, y_int, y_bl, y_non, y_tup, y_fl, y_ref, y_dic, t_bl, t_int, t_non, t_tup, t_fl, t_ref, g_nm, g_tp, setN0, setN1, wipe0, wipe1, stay0, stay1, at_0, at_1, at_2, at_3, at_4, at_5, at_last, ix_0, ix_1, ix_2, cut_init, new_at, new_at1, app_lt, put_at, put_ne, W_ok, W_nx, W_rt, W_bk, W_ct, W_bad, W_badS, List.getElem?_cons_zero, List.getElem?_cons_succ, List.set_cons_zero, List.set_cons_succ, if_true, if_false, Bool.false_eq_true, true_and, and_true, decide_eq_true_eq, decide_eq_false_iff_not, forall_const, not_true_eq_false, not_false_eq_true, false_implies, implies_true, Option.some.injEq, exists_eq_left', exists_eq_left, exists_and_left, fin_nx, fin_rt, fin_bk, fin_ct, fin_ex, Bool.not_eq_true', Bool.not_eq_false', Bool.true_eq_false, reduceCtorEq, D.bl.injEq, D.int.injEq, D.str.injEq, D.ref.injEq, D.tup.injEq, D.fl.injEq, Ob.lst.injEq, Ob.dic.injEq, List.length_map, List.length_append, List.length_cons, List.length_nil, Nat.reduceAdd, Nat.reduceLT, Nat.reduceLeDiff, Nat.zero_lt_succ, false_and, and_false, exists_false, ty_ne, eq_self, Int.cast_ofNat_Int, Int.reduceEq, Int.reduceLT, Int.reduceLE, decide_true, decide_false, ofString_inj, String.reduceEq, Option.map_some, Bool.not_true, Bool.not_false, true_implies, W_cons, W_nil]
    refine ⟨fun _ => ?_, fun _ => ⟨fun _ => ?_, fun _ => ?_⟩⟩
    · refine (draw_ok p3 (by omega) (by omega) (by omega)).imp ?_
      rintro _ h4 ⟨⟨a, rfl, a0, a1⟩, p4, f4, l4⟩
      simp only [ex_some, W_var, W_cst, W_bin, W_neg, W_cmp, W_chn, W_and, W_or, W_not, W_ite, W_tup, W_lst, W_dic, W_ix, W_sl, W_fn, W_bi, W_me, W_isi, W_lc, W_a0, W_a1, W_o0, W_o1, W_c0, W_c1, W_iof, W_ir1, W_ir2, W_truR, W_blR, T_and, T_or, T_not, T_var, T_cst, T_cmp, T_chn, T_fn, T_bi, T_isi, S_asg, S_unp, S_set, S_augA, S_augS, S_ex, S_ret, S_retN, S_ife, S_whl, S_fr, S_pas, S_brk, S_cnt, S_rse, b_add, b_sub, b_mul, b_div, b_mod, b_pow, b_str, b_tup, b_ref, c_eq, c_ne, c_in, c_ni, c_lt, c_le, c_gt, c_ge, c_ltS, c_is, c_isN, c_isB, q_int, q_str, q_bl, q_is, q_si, x_tup, x_fl, x_str, x_ref, x_dic, x_dicS, s_tup, s_str, s_fl, s_ref, i_len, i_int, i_intB, i_intS, i_abs, i_str, i_min, i_max, i_sum, i_all, i_any, i_list, i_tuple, n_tup, n_fl, n_ref, n_dic, l_fl, l_ref, e_tup, e_fl, e_ref, it_tup, it_fl, it_str, it_ref, k_app, k_ext, k_pop, k_split, k_part, k_join, m_app, m_ext, m_pop, m_split, m_part, m_join, k_cntT, k_cntS, k_sw, k_up, m_cntT, m_cntS, m_sw, m_up, i_rev, y_str, y_int, y_bl, y_non, y_tup, y_fl, y_ref, y_dic, t_bl, t_int, t_non, t_tup, t_fl, t_ref, g_nm, g_tp, setN0, setN1, wipe0, wipe1, stay0, stay1, at_0, at_1, at_2, at_3, at_4, at_5, at_last, ix_0, ix_1, ix_2, cut_init, new_at, new_at1, app_lt, put_at, put_ne, W_ok, W_nx, W_rt, W_bk, W_ct, W_bad, W_badS, List.getElem?_cons_zero, List.getElem?_cons_succ, List.set_cons_zero, List.set_cons_succ, if_true, if_false, Bool.false_eq_true, true_and, and_true, decide_eq_true_eq, decide_eq_false_iff_not, forall_const, not_true_eq_false, not_false_eq_true, false_implies, implies_true, Option.some.injEq, exists_eq_left', exists_eq_left, exists_and_left, fin_nx, fin_rt, fin_bk, fin_ct, fin_ex, Bool.not_eq_true', Bool.not_eq_false', Bool.true_eq_false, reduceCtorEq, D.bl.injEq, D.int.injEq, D.str.injEq, D.ref.injEq, D.tup.injEq, D.fl.injEq, Ob.lst.injEq, Ob.dic.injEq, List.length_map, List.length_append, List.length_cons, List.length_nil, Nat.reduceAdd, Nat.reduceLT, Nat.reduceLeDiff, Nat.zero_lt_succ, false_and, and_false, exists_false, ty_ne, eq_self, Int.cast_ofNat_Int, Int.reduceEq, Int.reduceLT, Int.reduceLE, decide_true, decide_false, ofString_inj, String.reduceEq, Option.map_some, Bool.not_true, Bool.not_false, true_implies, W_cons, W_nil]
      refine (numbered_ok (n := n + 1) tb (by omega) (by omega)).imp ?_
      rintro _ _ ⟨rfl, rfl⟩
      exact ⟨⟨_, _, rfl, tb, by omega, by omega⟩, p4.mono (by omega), (ff.trans f3).trans f4⟩
    · refine (draw_ok p3 (by omega) (by omega) (by omega)).imp ?_
      rintro _ h4 ⟨⟨a, rfl, a0, a1⟩, p4, f4, l4⟩
      simp only [ex_some, W_var, W_cst, W_bin, W_neg, W_cmp, W_chn, W_and, W_or, W_not, W_ite, W_tup, W_lst, W_dic, W_ix, W_sl, W_fn, W_bi, W_me, W_isi, W_lc, W_a0, W_a1, W_o0, W_o1, W_c0, W_c1, W_iof, W_ir1, W_ir2, W_truR, W_blR, T_and, T_or, T_not, T_var, T_cst, T_cmp, T_chn, T_fn, T_bi, T_isi, S_asg, S_unp, S_set, S_augA, S_augS, S_ex, S_ret, S_retN, S_ife, S_whl, S_fr, S_pas, S_brk, S_cnt, S_rse, b_add, b_sub, b_mul, b_div, b_mod, b_pow, b_str, b_tup, b_ref, c_eq, c_ne, c_in, c_ni, c_lt, c_le, c_gt, c_ge, c_ltS, c_is, c_isN, c_isB, q_int, q_str, q_bl, q_is, q_si, x_tup, x_fl, x_str, x_ref, x_dic, x_dicS, s_tup, s_str, s_fl, s_ref, i_len, i_int, i_intB, i_intS, i_abs, i_str, i_min, i_max, i_sum, i_all, i_any, i_list, i_tuple, n_tup, n_fl, n_ref, n_dic, l_fl, l_ref, e_tup, e_fl, e_ref, it_tup, it_fl, it_str, it_ref, k_app, k_ext, k_pop, k_split, k_part, k_join, m_app, m_ext, m_pop, m_split, m_part, m_join, k_cntT, k_cntS, k_sw, k_up, m_cntT, m_cntS, m_sw, m_up, i_rev, y_str, y_int, y_bl, y_non, y_tup, y_fl, y_ref, y_dic, t_bl, t_int, t_non, t_tup, t_fl, t_ref, g_nm, g_tp, setN0, setN1, wipe0, wipe1, stay0, stay1, at_0, at_1, at_2, at_3, at_4, at_5, at_last, ix_0, ix_1, ix_2, cut_init, new_at, new_at1, app_lt, put_at, put_ne, W_ok, W_nx, W_rt, W_bk, W_ct, W_bad, W_badS, List.getElem?_cons_zero, List.getElem?_cons_succ, List.set_cons_zero, List.set_cons_succ, if_true, if_false, Bool.false_eq_true, true_and, and_true, decide_eq_true_eq, decide_eq_false_iff_not, forall_const, not_true_eq_false, not_false_eq_true, false_implies, implies_true, Option.some.injEq, exists_eq_left', exists_eq_left, exists_and_left, fin_nx, fin_rt, fin_bk, fin_ct, fin_ex, Bool.not_eq_true', Bool.not_eq_false', Bool.true_eq_false, reduceCtorEq, D.bl.injEq, D.int.injEq, D.str.injEq, D.ref.injEq, D.tup.injEq, D.fl.injEq, Ob.lst.injEq, Ob.dic.injEq, List.length_map, List.length_append, List.length_cons, List.length_nil, Nat.reduceAdd, Nat.reduceLT, Nat.reduceLeDiff, Nat.zero_lt_succ, false_and, and_false, exists_false, ty_ne, eq_self, Int.cast_ofNat_Int, Int.reduceEq, Int.reduceLT, Int.reduceLE, decide_true, decide_false, ofString_inj, String.reduceEq, Option.map_some, Bool.not_true, Bool.not_false, true_implies, W_cons, W_nil]
      refine (numbered_ok (n := n + 1) tb (by omega) (by omega)).imp ?_
      rintro _ _ ⟨rfl, rfl⟩
      exact ⟨⟨_, _, rfl, tb, by omega, by omega⟩, p4.mono (by omega), (ff.trans f3).trans f4⟩
    · refine (numbered_ok (n := n + 1) tb (by omega) (by omega)).imp ?_
      rintro _ _ ⟨rfl, rfl⟩
      exact ⟨⟨_, _, rfl, tb, by omega, by omega⟩, p3.mono (by omega), ff.trans f3⟩
/-- a list of atoms -/
def Ls (h : Hd) (q : Nat) (P : List D → Prop) : Prop := ∃ l, h[q]? = some (.lst l) ∧ P l
def Lot (l : List D) : Prop := l.length = 4 ∧ ∀ d ∈ l, Atm d
theorem Ls.fr {h h' : Hd} {q : Nat} {ps : List Nat} {P : List D → Prop} (k : Ls h q P) (f : Eg.Fr ps h h') (hp : q ∉ ps) : Ls h' q P := by
  obtain ⟨l, h1, r⟩ := k
  exact ⟨l, f.at h1 hp, r⟩
theorem lot_ok (hp : Pool h p N) (hN : N + 40 ≤ 1000000) : (callN P wf (n + 4) 12 [.ref p] h).W E (fun d h' => ∃ q, d = .ref q ∧ q ≠ p ∧ Ls h' q Lot ∧ Pool h' p (N + 40) ∧ Eg.Fr [p] h h') := by
  refine W_call P__law_lot rfl ?_
  simp only [c__law_lot, c__law_lot_1, c__law_lot_2, startD, List.map_cons, List.map_nil, List.length_cons, List.length_nil, List.replicate, List.cons_append, List.nil_append, Nat.reduceSub, Nat.reduceAdd]
  rw [W_cons]
  simp only [ex_some, W_var, W_cst, W_bin, W_neg, W_cmp, W_chn, W_and, W_or, W_not, W_ite, W_tup, W_lst, W_dic, W_ix, W_sl, W_fn, W_bi, W_me, W_isi, W_lc, W_a0, W_a1, W_o0, W_o1, W_c0, W_c1, W_iof, W_ir1, W_ir2, W_truR, W_blR, T_and, T_or, T_not, T_var, T_cst, T_cmp, T_chn, T_fn, T_bi, T_isi, S_asg, S_unp, S_set, S_augA, S_augS, S_ex, S_ret, S_retN, S_ife, S_whl, S_fr, S_pas, S_brk, S_cnt, S_rse, b_add, b_sub, b_mul, b_div, b_mod, b_pow, b_str, b_tup, b_ref, c_eq, c_ne, c_in, c_ni, c_lt, c_le, c_gt, c_ge, c_ltS, c_is, c_isN, c_isB, q_int, q_str, q_bl, q_is, q_si, x_tup, x_fl, x_str, x_ref, x_dic, x_dicS, s_tup, s_str, s_fl, s_ref, i_len, i_int, i_intB, i_intS, i_abs, i_str, i_min, i_max, i_sum, i_all, i_any, i_list, i_tuple, n_tup, n_fl, n_ref, n_dic, l_fl, l_ref, e_tup, e_fl, e_ref, it_tup, it_fl, it_str, it_ref, k_app, k_ext, k_pop, k_split, k_part, k_join, m_app, m_ext, m_pop, m_split, m_part, m_join, k_cntT, k_cntS, k_sw, k_up, m_cntT, m_cntS, m_sw, m_up, i_rev, y_str, y_int, y_bl, y_non, y_tup, y_fl, y_ref, y_dic, t_bl, t_int, t_non, t_tup, t_fl, t_ref, g_nm, g_tp, setN0, setN1, wipe0, wipe1, stay0, stay1, at_0, at_1, at_2, at_3, at_4, at_5, at_last, ix_0, ix_1, ix_2, cut_init, new_at, new_at1, app_lt, put_at, put_ne, W_ok, W_nx, W_rt, W_bk, W_ct, W_bad, W_badS, List.getElem?_cons_zero, List.getElem?_cons_succ, List.set_cons_zero, List.set_cons_succ, if_true, if_false, Bool.false_eq_true, true_and, and_true, decide_eq_true_eq, decide_eq_false_iff_not, forall_const, not_true_eq_false, not_false_eq_true, false_implies, implies_true, Option.some.injEq, exists_eq_left', exists_eq_left, exists_and_left, fin_nx, fin_rt, fin_bk, fin_ct, fin_ex, Bool.not_eq_true', Bool.not_eq_false', Bool.true_eq_false, reduceCtorEq, D.bl.injEq, D.int.injEq, D.str.injEq, D.ref.injEq, D.tup.injEq, D.fl.injEq, Ob.lst.injEq, Ob.dic.injEq, List.length_map, List.length_append, List.length_cons, List.length_nil, Nat.reduceAdd, Nat.reduceLT, Nat.reduceLeDiff, Nat.zero_lt_succ, false_and, and_false, exists_false, ty_ne, eq_self, Int.cast_ofNat_Int, Int.reduceEq, Int.reduceLT, Int.reduceLE, decide_true, decide_false, ofString_inj, String.reduceEq, Option.map_some, Bool.not_true, Bool.not_false, true_implies]
  refine (fresh_ok hp (by omega)).imp ?_
  rintro d1 h1 ⟨a1, p1, f1⟩
  refine (fresh_ok p1 (by omega)).imp ?_
  rintro d2 h2 ⟨a2, p2, f2⟩
  refine (fresh_ok p2 (by omega)).imp ?_
  rintro d3 h3 ⟨a3, p3, f3⟩
  have fa := (f1.trans f2).trans f3
  have hq : h3.length ≠ p := fun z => by have := p3.lt; omega
  have nq : h3.length ∉ [p] := by simpa using hq
  obtain ⟨b, k, rfl, hb, k0, k1⟩ := id a1
  refine ⟨by decide, ?_⟩
  rw [W_cons]
  simp only [ex_some, W_var, W_cst, W_bin, W_neg, W_cmp, W_chn, W_and, W_or, W_not, W_ite, W_tup, W_lst, W_dic, W_ix, W_sl, W_fn, W_bi, W_me, W_isi, W_lc, W_a0, W_a1, W_o0, W_o1, W_c0, W_c1, W_iof, W_ir1, W_ir2, W_truR, W_blR, T_and, T_or, T_not, T_var, T_cst, T_cmp, T_chn, T_fn, T_bi, T_isi, S_asg, S_unp, S_set, S_augA, S_augS, S_ex, S_ret, S_retN, S_ife, S_whl, S_fr, S_pas, S_brk, S_cnt, S_rse, b_add, b_sub, b_mul, b_div, b_mod, b_pow, b_str, b_tup, b_ref, c_eq, c_ne, c_in, c_ni, c_lt, c_le, c_gt, c_ge, c_ltS, c_is, c_isN, c_isB, q_int, q_str, q_bl, q_is, q_si, x_tup, x_fl, x_str, x_ref, x_dic, x_dicS, s_tup, s_str, s_fl, s_ref, i_len, i_int, i_intB, i_intS, i_abs, i_str, i_min, i_max, i_sum, i_all, i_any, i_list, i_tuple, n_tup, n_fl, n_ref, n_dic, l_fl, l_ref, e_tup, e_fl, e_ref, it_tup, it_fl, it_str, it_ref, k_app, k_ext, k_pop, k_split, k_part, k_join, m_app, m_ext, m_pop, m_split, m_part, m_join, k_cntT, k_cntS, k_sw, k_up, m_cntT, m_cntS, m_sw, m_up, i_rev, y_str, y_int, y_bl, y_non, y_tup, y_fl, y_ref, y_dic, t_bl, t_int, t_non, t_tup, t_fl, t_ref, g_nm, g_tp, setN0, setN1, wipe0, wipe1, stay0, stay1, at_0, at_1, at_2, at_3, at_4, at_5, at_last, ix_0, ix_1, ix_2, cut_init, new_at, new_at1, app_lt, put_at, put_ne, W_ok, W_nx, W_rt, W_bk, W_ct, W_bad, W_badS, List.getElem?_cons_zero, List.getElem?_cons_succ, List.set_cons_zero, List.set_cons_succ, if_true, if_false, Bool.false_eq_true, true_and, and_true, decide_eq_true_eq, decide_eq_false_iff_not, forall_const, not_true_eq_false, not_false_eq_true, false_implies, implies_true, Option.some.injEq, exists_eq_left', exists_eq_left, exists_and_left, fin_nx, fin_rt, fin_bk, fin_ct, fin_ex, Bool.not_eq_true', Bool.not_eq_false', Bool.true_eq_false, reduceCtorEq, D.bl.injEq, D.int.injEq, D.str.injEq, D.ref.injEq, D.tup.injEq, D.fl.injEq, Ob.lst.injEq, Ob.dic.injEq, List.length_map, List.length_append, List.length_cons, List.length_nil, Nat.reduceAdd, Nat.reduceLT, Nat.reduceLeDiff, Nat.zero_lt_succ, false_and, and_false, exists_false, ty_ne, eq_self, Int.cast_ofNat_Int, Int.reduceEq, Int.reduceLT, Int.reduceLE, decide_true, decide_false, ofString_inj, String.reduceEq, Option.map_some, Bool.not_true, Bool.not_false, true_implies, atD]
  rw [W_cons]
  simp only [ex_some, W_var, W_cst, W_bin, W_neg, W_cmp, W_chn, W_and, W_or, W_not, W_ite, W_tup, W_lst, W_dic, W_ix, W_sl, W_fn, W_bi, W_me, W_isi, W_lc, W_a0, W_a1, W_o0, W_o1, W_c0, W_c1, W_iof, W_ir1, W_ir2, W_truR, W_blR, T_and, T_or, T_not, T_var, T_cst, T_cmp, T_chn, T_fn, T_bi, T_isi, S_asg, S_unp, S_set, S_augA, S_augS, S_ex, S_ret, S_retN, S_ife, S_whl, S_fr, S_pas, S_brk, S_cnt, S_rse, b_add, b_sub, b_mul, b_div, b_mod, b_pow, b_str, b_tup, b_ref, c_eq, c_ne, c_in, c_ni, c_lt, c_le, c_gt, c_ge, c_ltS, c_is, c_isN, c_isB, q_int, q_str, q_bl, q_is, q_si, x_tup, x_fl, x_str, x_ref, x_dic, x_dicS, s_tup, s_str, s_fl, s_ref, i_len, i_int, i_intB, i_intS, i_abs, i_str, i_min, i_max, i_sum, i_all, i_any, i_list, i_tuple, n_tup, n_fl, n_ref, n_dic, l_fl, l_ref, e_tup, e_fl, e_ref, it_tup, it_fl, it_str, it_ref, k_app, k_ext, k_pop, k_split, k_part, k_join, m_app, m_ext, m_pop, m_split, m_part, m_join, k_cntT, k_cntS, k_sw, k_up, m_cntT, m_cntS, m_sw, m_up, i_rev, y_str, y_int, y_bl, y_non, y_tup, y_fl, y_ref, y_dic, t_bl, t_int, t_non, t_tup, t_fl, t_ref, g_nm, g_tp, setN0, setN1, wipe0, wipe1, stay0, stay1, at_0, at_1, at_2, at_3, at_4, at_5, at_last, ix_0, ix_1, ix_2, cut_init, new_at, new_at1, app_lt, put_at, put_ne, W_ok, W_nx, W_rt, W_bk, W_ct, W_bad, W_badS, List.getElem?_cons_zero, List.getElem?_cons_succ, List.set_cons_zero, List.set_cons_succ, if_true, if_false, Bool.false_eq_true, true_and, and_true, decide_eq_true_eq, decide_eq_false_iff_not, forall_const, not_true_eq_false, not_false_eq_true, false_implies, implies_true, Option.some.injEq, exists_eq_left', exists_eq_left, exists_and_left, fin_nx, fin_rt, fin_bk, fin_ct, fin_ex, Bool.not_eq_true', Bool.not_eq_false', Bool.true_eq_false, reduceCtorEq, D.bl.injEq, D.int.injEq, D.str.injEq, D.ref.injEq, D.tup.injEq, D.fl.injEq, Ob.lst.injEq, Ob.dic.injEq, List.length_map, List.length_append, List.length_cons, List.length_nil, Nat.reduceAdd, Nat.reduceLT, Nat.reduceLeDiff, Nat.zero_lt_succ, false_and, and_false, exists_false, ty_ne, eq_self, Int.cast_ofNat_Int, Int.reduceEq, Int.reduceLT, Int.reduceLE, decide_true, decide_false, ofString_inj, String.reduceEq, Option.map_some, Bool.not_true, Bool.not_false, true_implies]
  simp only [c__law_lot_3, c__law_lot_4]
  have p4 : Pool (h3 ++ [Ob.lst [atD b k, d2, d3]]) p (N + 12 + 12 + 12) := p3.fr (ps := []) Fr.new List.not_mem_nil
  have done : ∀ (h5 : Hd) (M : Nat) (k' : Int), 0 ≤ k' → k' ≤ 999999 → h5[h3.length]? = some (.lst [atD b k, d2, d3]) → Pool h5 p M → M ≤ N + 40 → Eg.Fr [p] h h5 →
      Ls (h5.set h3.length (.lst ([atD b k, d2, d3] ++ [atD b k']))) h3.length Lot ∧ Pool (h5.set h3.length (.lst ([atD b k, d2, d3] ++ [atD b k']))) p (N + 40) ∧ Eg.Fr [p] h (h5.set h3.length (.lst ([atD b k, d2, d3] ++ [atD b k']))) := by
    intro h5 M k' e0 e1 l5 p5 hM f5
    refine ⟨⟨_, put_at (lt_of_get l5), rfl, ?_⟩, (p5.mono hM).fr (Fr.putIn (ps := [h3.length]) Fr.refl List.mem_cons_self) (by simpa using hq.symm), f5.put fa.le⟩
    intro d hd
    simp only [List.cons_append, List.nil_append, List.mem_cons, List.not_mem_nil, or_false] at hd
    rcases hd with rfl | rfl | rfl | rfl
    · exact a1
    · exact a2
    · exact a3
    · exact ⟨_, _, rfl, hb, e0, e1⟩
  rw [W_cons]
  simp only [ex_some, W_var, W_cst, W_bin, W_neg, W_cmp, W_chn, W_and, W_or, W_not, W_ite, W_tup, W_lst, W_dic, W_ix, W_sl, W_fn, W_bi, W_me, W_isi, W_lc, W_a0, W_a1, W_o0, W_o1, W_c0, W_c1, W_iof, W_ir1, W_ir2, W_truR, W_blR, T_and, T_or, T_not, T_var, T_cst, T_cmp, T_chn, T_fn, T_bi, T_isi, S_asg, S_unp, S_set, S_augA, S_augS, S_ex, S_ret, S_retN, S_ife, S_whl, S_fr, S_pas, S_brk, S_cnt, S_rse, b_add, b_sub, b_mul, b_div, b_mod, b_pow, b_str, b_tup, b_ref, c_eq, c_ne, c_in, c_ni, c_lt, c_le, c_gt, c_ge, c_ltS, c_is, c_isN, c_isB, q_int, q_str, q_bl, q_is, q_si, x_tup, x_fl, x_str, x_ref, x_dic, x_dicS, s_tup, s_str, s_fl, s_ref, i_len, i_int, i_intB, i_intS, i_abs, i_str, i_min, i_max, i_sum, i_all, i_any, i_list, i_tuple, n_tup, n_fl, n_ref, n_dic, l_fl, l_ref, e_tup, e_fl, e_ref, it_tup, it_fl, it_str, it_ref, k_app, k_ext, k_pop, k_split, k_part, k_join, m_app, m_ext, m_pop, m_split, m_part, m_join, k_cntT, k_cntS, k_sw, k_up, m_cntT, m_cntS, m_sw, m_up, i_rev, y_str, y_int, y_bl, y_non, y_tup, y_fl, y_ref, y_dic, t_bl, t_int, t_non, t_tup, t_fl, t_ref, g_nm, g_tp, setN0, setN1, wipe0, wipe1, stay0, stay1, at_0, at_1, at_2, at_3, at_4, at_5, at_last, ix_0, ix_1, ix_2, cut_init, new_at, new_at1, app_lt, put_at, put_ne, W_ok, W_nx, W_rt, W_bk, W_ct, W_bad, W_badS, List.getElem?_cons_zero, List.getElem?_cons_succ, List.set_cons_zero, List.set_cons_succ, if_true, if_false, Bool.false_eq_true, true_and, and_true, decide_eq_true_eq, decide_eq_false_iff_not, forall_const, not_true_eq_false, not_false_eq_true, false_implies, implies_true, Option.some.injEq, exists_eq_left', exists_eq_left, exists_and_left, fin_nx, fin_rt, fin_bk, fin_ct, fin_ex, Bool.not_eq_true', Bool.not_eq_false', Bool.true_eq_false, reduceCtorEq, D.bl.injEq, D.int.injEq, D.str.injEq, D.ref.injEq, D.tup.injEq, D.fl.injEq, Ob.lst.injEq, Ob.dic.injEq, List.length_map, List.length_append, List.length_cons, List.length_nil, Nat.reduceAdd, Nat.reduceLT, Nat.reduceLeDiff, Nat.zero_lt_succ, false_and, and_false, exists_false, ty_ne, eq_self, Int.cast_ofNat_Int, Int.reduceEq, Int.reduceLT, Int.reduceLE, decide_true, decide_false, ofString_inj, String.reduceEq, Option.map_some, Bool.not_true, Bool.not_false, true_implies]
  have l4 : (h3 ++ [Ob.lst [atD b k, d2, d3]])[h3.length]? = some (.lst [atD b k, d2, d3]) := new_at
  have m2 := Int.fmod_lt_of_pos k (b := 999999) (by omega)
  have m1 := Int.fmod_nonneg_of_pos k (b := 999999) (by omega)
  have f4 : Eg.Fr [p] h (h3 ++ [Ob.lst [atD b k, d2, d3]]) := fa.trans Fr.new
  have app : ∀ (h5 : Hd) (M : Nat) (k' : Int), 0 ≤ k' → k' ≤ 999999 → h5[h3.length]? = some (.lst [atD b k, d2, d3]) → Pool h5 p M → M ≤ N + 40 → Eg.Fr [p] h h5 →
      (callN P wf (n + 3) 10 [.str b, .int k'] h5).W (fun e h => E e h) (fun x h' => (evMe .append (.ref h3.length) [x] h').W (fun e h => E e h) fun _ h' => ∃ q, D.ref h3.length = D.ref q ∧ q ≠ p ∧ Ls h' q Lot ∧ Pool h' p (N + 40) ∧ Eg.Fr [p] h h') := by
    intro h5 M k' e0 e1 l5 p5 hM f5
    refine (numbered_ok (n := n + 2) hb e0 e1).imp ?_
    rintro _ h6 ⟨rfl, rfl⟩
    rw [m_app l5]
    obtain ⟨r1, r2, r3⟩ := done h6 M k' e0 e1 l5 p5 hM f5
    exact ⟨lim_lt (by simp), h3.length, rfl, hq, r1, r2, r3⟩
  have lim1 : ∀ (h5 : Hd), h5[h3.length]? = some (.lst [atD b k, d2, d3]) → okMe .append (.ref h3.length) h5 = true := fun h5 e => k_app e
  have kk : ∀ (h5 : Hd), (∃ q, D.ref h3.length = D.ref q ∧ q ≠ p ∧ Ls h5 q Lot ∧ Pool h5 p (N + 40) ∧ Eg.Fr [p] h h5) → (h3.length ≠ p ∧ Ls h5 h3.length Lot ∧ Pool h5 p (N + 40) ∧ Eg.Fr [p] h h5) := by
    rintro h5 ⟨q, e, r⟩
    cases e
    exact r
  refine ⟨fun _ => ?_, fun _ => ?_⟩
  · refine (draw_ok (n := n + 1) p4 (by omega) (by omega) (by omega)).imp ?_
    rintro _ h5 ⟨⟨v, rfl, v0, v1⟩, p5, f5, _⟩
    have l5 : h5[h3.length]? = some (.lst [atD b k, d2, d3]) := f5.at l4 nq
    simp only [ex_some, W_var, W_cst, W_bin, W_neg, W_cmp, W_chn, W_and, W_or, W_not, W_ite, W_tup, W_lst, W_dic, W_ix, W_sl, W_fn, W_bi, W_me, W_isi, W_lc, W_a0, W_a1, W_o0, W_o1, W_c0, W_c1, W_iof, W_ir1, W_ir2, W_truR, W_blR, T_and, T_or, T_not, T_var, T_cst, T_cmp, T_chn, T_fn, T_bi, T_isi, S_asg, S_unp, S_set, S_augA, S_augS, S_ex, S_ret, S_retN, S_ife, S_whl, S_fr, S_pas, S_brk, S_cnt, S_rse, b_add, b_sub, b_mul, b_div, b_mod, b_pow, b_str, b_tup, b_ref, c_eq, c_ne, c_in, c_ni, c_lt, c_le, c_gt, c_ge, c_ltS, c_is, c_isN, c_isB, q_int, q_str, q_bl, q_is, q_si, x_tup, x_fl, x_str, x_ref, x_dic, x_dicS, s_tup, s_str, s_fl, s_ref, i_len, i_int, i_intB, i_intS, i_abs, i_str, i_min, i_max, i_sum, i_all, i_any, i_list, i_tuple, n_tup, n_fl, n_ref, n_dic, l_fl, l_ref, e_tup, e_fl, e_ref, it_tup, it_fl, it_str, it_ref, k_app, k_ext, k_pop, k_split, k_part, k_join, m_app, m_ext, m_pop, m_split, m_part, m_join, k_cntT, k_cntS, k_sw, k_up, m_cntT, m_cntS, m_sw, m_up, i_rev, y_str, y_int, y_bl, y_non, y_tup, y_fl, y_ref, y_dic, t_bl, t_int, t_non, t_tup, t_fl, t_ref, g_nm, g_tp, setN0, setN1, wipe0, wipe1, stay0, stay1, at_0, at_1, at_2, at_3, at_4, at_5, at_last, ix_0, ix_1, ix_2, cut_init, new_at, new_at1, app_lt, put_at, put_ne, W_ok, W_nx, W_rt, W_bk, W_ct, W_bad, W_badS, List.getElem?_cons_zero, List.getElem?_cons_succ, List.set_cons_zero, List.set_cons_succ, if_true, if_false, Bool.false_eq_true, true_and, and_true, decide_eq_true_eq, decide_eq_false_iff_not, forall_const, not_true_eq_false, not_false_eq_true, false_implies, implies_true, Option.some.injEq, exists_eq_left', exists_eq_left, exists_and_left, fin_nx, fin_rt, fin_bk, fin_ct, fin_ex, Bool.not_eq_true', Bool.not_eq_false', Bool.true_eq_false, reduceCtorEq, D.bl.injEq, D.int.injEq, D.str.injEq, D.ref.injEq, D.tup.injEq, D.fl.injEq, Ob.lst.injEq, Ob.dic.injEq, List.length_map, List.length_append, List.length_cons, List.length_nil, Nat.reduceAdd, Nat.reduceLT, Nat.reduceLeDiff, Nat.zero_lt_succ, false_and, and_false, exists_false, ty_ne, eq_self, Int.cast_ofNat_Int, Int.reduceEq, Int.reduceLT, Int.reduceLE, decide_true, decide_false, ofString_inj, String.reduceEq, Option.map_some, Bool.not_true, Bool.not_false, true_implies, W_cons, W_nil]
    refine ⟨fun _ => ⟨lim1 _ l5, ?_⟩, fun _ => ⟨lim1 _ l5, by omega, ?_⟩⟩
    · refine (app h5 (N + 37) 0 (by omega) (by omega) l5 p5 (by omega) (f4.trans f5)).imp ?_
      intro x h6 w
      exact w.imp fun _ _ q => kk _ q
    · refine (app h5 (N + 37) (k.fmod 999999 + 1) (by omega) (by omega) l5 p5 (by omega) (f4.trans f5)).imp ?_
      intro x h6 w
      exact w.imp fun _ _ q => kk _ q
  · simp only [ex_some, W_var, W_cst, W_bin, W_neg, W_cmp, W_chn, W_and, W_or, W_not, W_ite, W_tup, W_lst, W_dic, W_ix, W_sl, W_fn, W_bi, W_me, W_isi, W_lc, W_a0, W_a1, W_o0, W_o1, W_c0, W_c1, W_iof, W_ir1, W_ir2, W_truR, W_blR, T_and, T_or, T_not, T_var, T_cst, T_cmp, T_chn, T_fn, T_bi, T_isi, S_asg, S_unp, S_set, S_augA, S_augS, S_ex, S_ret, S_retN, S_ife, S_whl, S_fr, S_pas, S_brk, S_cnt, S_rse, b_add, b_sub, b_mul, b_div, b_mod, b_pow, b_str, b_tup, b_ref, c_eq, c_ne, c_in, c_ni, c_lt, c_le, c_gt, c_ge, c_ltS, c_is, c_isN, c_isB, q_int, q_str, q_bl, q_is, q_si, x_tup, x_fl, x_str, x_ref, x_dic, x_dicS, s_tup, s_str, s_fl, s_ref, i_len, i_int, i_intB, i_intS, i_abs, i_str, i_min, i_max, i_sum, i_all, i_any, i_list, i_tuple, n_tup, n_fl, n_ref, n_dic, l_fl, l_ref, e_tup, e_fl, e_ref, it_tup, it_fl, it_str, it_ref, k_app, k_ext, k_pop, k_split, k_part, k_join, m_app, m_ext, m_pop, m_split, m_part, m_join, k_cntT, k_cntS, k_sw, k_up, m_cntT, m_cntS, m_sw, m_up, i_rev, y_str, y_int, y_bl, y_non, y_tup, y_fl, y_ref, y_dic, t_bl, t_int, t_non, t_tup, t_fl, t_ref, g_nm, g_tp, setN0, setN1, wipe0, wipe1, stay0, stay1, at_0, at_1, at_2, at_3, at_4, at_5, at_last, ix_0, ix_1, ix_2, cut_init, new_at, new_at1, app_lt, put_at, put_ne, W_ok, W_nx, W_rt, W_bk, W_ct, W_bad, W_badS, List.getElem?_cons_zero, List.getElem?_cons_succ, List.set_cons_zero, List.set_cons_succ, if_true, if_false, Bool.false_eq_true, true_and, and_true, decide_eq_true_eq, decide_eq_false_iff_not, forall_const, not_true_eq_false, not_false_eq_true, false_implies, implies_true, Option.some.injEq, exists_eq_left', exists_eq_left, exists_and_left, fin_nx, fin_rt, fin_bk, fin_ct, fin_ex, Bool.not_eq_true', Bool.not_eq_false', Bool.true_eq_false, reduceCtorEq, D.bl.injEq, D.int.injEq, D.str.injEq, D.ref.injEq, D.tup.injEq, D.fl.injEq, Ob.lst.injEq, Ob.dic.injEq, List.length_map, List.length_append, List.length_cons, List.length_nil, Nat.reduceAdd, Nat.reduceLT, Nat.reduceLeDiff, Nat.zero_lt_succ, false_and, and_false, exists_false, ty_ne, eq_self, Int.cast_ofNat_Int, Int.reduceEq, Int.reduceLT, Int.reduceLE, decide_true, decide_false, ofString_inj, String.reduceEq, Option.map_some, Bool.not_true, Bool.not_false, true_implies, W_cons, W_nil]
    refine ⟨by omega, ?_⟩
    refine (app _ (N + 36) (k.fmod 999999 + 1) (by omega) (by omega) l4 p4 (by omega) f4).imp ?_
    intro x h6 w
    exact w.imp fun _ _ q => kk _ q
def Rw (l : List D) : Prop := 1 ≤ l.length ∧ l.length ≤ 40 ∧ ∀ d ∈ l, Atm d
theorem row_ok {q : Nat} (hp : Pool h p N) (hN : N + 600 ≤ 1000000) (hl : Ls h q Lot) (hq : q ≠ p) : (callN P wf (n + 4) 13 [.ref p, .ref q] h).W E (fun d h' => ∃ r, d = .ref r ∧ r ≠ p ∧ Ls h' r Rw ∧ Pool h' p (N + 600) ∧ Eg.Fr [p] h h') := by
  have nq : q ∉ [p] := by simpa using hq
  have lq : q < h.length := by obtain ⟨l, e, _⟩ := hl; exact lt_of_get e
  refine W_call P__law_row rfl ?_
  have rest : ∀ (h1 : Hd) (M m : Nat), Pool h1 p M → M ≤ N + 10 → 1 ≤ m → m ≤ 40 → Ls h1 q Lot → Eg.Fr [p] h h1 → (evB (callN P wf (n + 3)) wf c__law_row_2 [some (.ref p), some (.ref q), some (.int m), none, none, none] h1).W
      (fin E fun d h' => ∃ r, d = .ref r ∧ r ≠ p ∧ Ls h' r Rw ∧ Pool h' p (N + 600) ∧ Eg.Fr [p] h h') := by
    intro h1 M m p1 hM m1 m2 l1 f1
    have hr : h1.length ≠ p := fun z => by have := p1.lt; omega
    have nr : h1.length ∉ [p] := by simpa using hr
    have nqr : q ≠ h1.length := by have := f1.le; omega
    simp only [c__law_row_2, c__law_row_3, c__law_row_4]
    rw [W_cons]
    simp only [ex_some, W_var, W_cst, W_bin, W_neg, W_cmp, W_chn, W_and, W_or, W_not, W_ite, W_tup, W_lst, W_dic, W_ix, W_sl, W_fn, W_bi, W_me, W_isi, W_lc, W_a0, W_a1, W_o0, W_o1, W_c0, W_c1, W_iof, W_ir1, W_ir2, W_truR, W_blR, T_and, T_or, T_not, T_var, T_cst, T_cmp, T_chn, T_fn, T_bi, T_isi, S_asg, S_unp, S_set, S_augA, S_augS, S_ex, S_ret, S_retN, S_ife, S_whl, S_fr, S_pas, S_brk, S_cnt, S_rse, b_add, b_sub, b_mul, b_div, b_mod, b_pow, b_str, b_tup, b_ref, c_eq, c_ne, c_in, c_ni, c_lt, c_le, c_gt, c_ge, c_ltS, c_is, c_isN, c_isB, q_int, q_str, q_bl, q_is, q_si, x_tup, x_fl, x_str, x_ref, x_dic, x_dicS, s_tup, s_str, s_fl, s_ref, i_len, i_int, i_intB, i_intS, i_abs, i_str, i_min, i_max, i_sum, i_all, i_any, i_list, i_tuple, n_tup, n_fl, n_ref, n_dic, l_fl, l_ref, e_tup, e_fl, e_ref, it_tup, it_fl, it_str, it_ref, k_app, k_ext, k_pop, k_split, k_part, k_join, m_app, m_ext, m_pop, m_split, m_part, m_join, k_cntT, k_cntS, k_sw, k_up, m_cntT, m_cntS, m_sw, m_up, i_rev, y_str, y_int, y_bl, y_non, y_tup, y_fl, y_ref, y_dic, t_bl, t_int, t_non, t_tup, t_fl, t_ref, g_nm, g_tp, setN0, setN1, wipe0, wipe1, stay0, stay1, at_0, at_1, at_2, at_3, at_4, at_5, at_last, ix_0, ix_1, ix_2, cut_init, new_at, new_at1, app_lt, put_at, put_ne, W_ok, W_nx, W_rt, W_bk, W_ct, W_bad, W_badS, List.getElem?_cons_zero, List.getElem?_cons_succ, List.set_cons_zero, List.set_cons_succ, if_true, if_false, Bool.false_eq_true, true_and, and_true, decide_eq_true_eq, decide_eq_false_iff_not, forall_const, not_true_eq_false, not_false_eq_true, false_implies, implies_true, Option.some.injEq, exists_eq_left', exists_eq_left, exists_and_left, fin_nx, fin_rt, fin_bk, fin_ct, fin_ex, Bool.not_eq_true', Bool.not_eq_false', Bool.true_eq_false, reduceCtorEq, D.bl.injEq, D.int.injEq, D.str.injEq, D.ref.injEq, D.tup.injEq, D.fl.injEq, Ob.lst.injEq, Ob.dic.injEq, List.length_map, List.length_append, List.length_cons, List.length_nil, Nat.reduceAdd, Nat.reduceLT, Nat.reduceLeDiff, Nat.zero_lt_succ, false_and, and_false, exists_false, ty_ne, eq_self, Int.cast_ofNat_Int, Int.reduceEq, Int.reduceLT, Int.reduceLE, decide_true, decide_false, ofString_inj, String.reduceEq, Option.map_some, Bool.not_true, Bool.not_false, true_implies]
    refine ⟨by decide, ?_⟩
    rw [W_cons]
    simp only [ex_some, W_var, W_cst, W_bin, W_neg, W_cmp, W_chn, W_and, W_or, W_not, W_ite, W_tup, W_lst, W_dic, W_ix, W_sl, W_fn, W_bi, W_me, W_isi, W_lc, W_a0, W_a1, W_o0, W_o1, W_c0, W_c1, W_iof, W_ir1, W_ir2, W_truR, W_blR, T_and, T_or, T_not, T_var, T_cst, T_cmp, T_chn, T_fn, T_bi, T_isi, S_asg, S_unp, S_set, S_augA, S_augS, S_ex, S_ret, S_retN, S_ife, S_whl, S_fr, S_pas, S_brk, S_cnt, S_rse, b_add, b_sub, b_mul, b_div, b_mod, b_pow, b_str, b_tup, b_ref, c_eq, c_ne, c_in, c_ni, c_lt, c_le, c_gt, c_ge, c_ltS, c_is, c_isN, c_isB, q_int, q_str, q_bl, q_is, q_si, x_tup, x_fl, x_str, x_ref, x_dic, x_dicS, s_tup, s_str, s_fl, s_ref, i_len, i_int, i_intB, i_intS, i_abs, i_str, i_min, i_max, i_sum, i_all, i_any, i_list, i_tuple, n_tup, n_fl, n_ref, n_dic, l_fl, l_ref, e_tup, e_fl, e_ref, it_tup, it_fl, it_str, it_ref, k_app, k_ext, k_pop, k_split, k_part, k_join, m_app, m_ext, m_pop, m_split, m_part, m_join, k_cntT, k_cntS, k_sw, k_up, m_cntT, m_cntS, m_sw, m_up, i_rev, y_str, y_int, y_bl, y_non, y_tup, y_fl, y_ref, y_dic, t_bl, t_int, t_non, t_tup, t_fl, t_ref, g_nm, g_tp, setN0, setN1, wipe0, wipe1, stay0, stay1, at_0, at_1, at_2, at_3, at_4, at_5, at_last, ix_0, ix_1, ix_2, cut_init, new_at, new_at1, app_lt, put_at, put_ne, W_ok, W_nx, W_rt, W_bk, W_ct, W_bad, W_badS, List.getElem?_cons_zero, List.getElem?_cons_succ, List.set_cons_zero, List.set_cons_succ, if_true, if_false, Bool.false_eq_true, true_and, and_true, decide_eq_true_eq, decide_eq_false_iff_not, forall_const, not_true_eq_false, not_false_eq_true, false_implies, implies_true, Option.some.injEq, exists_eq_left', exists_eq_left, exists_and_left, fin_nx, fin_rt, fin_bk, fin_ct, fin_ex, Bool.not_eq_true', Bool.not_eq_false', Bool.true_eq_false, reduceCtorEq, D.bl.injEq, D.int.injEq, D.str.injEq, D.ref.injEq, D.tup.injEq, D.fl.injEq, Ob.lst.injEq, Ob.dic.injEq, List.length_map, List.length_append, List.length_cons, List.length_nil, Nat.reduceAdd, Nat.reduceLT, Nat.reduceLeDiff, Nat.zero_lt_succ, false_and, and_false, exists_false, ty_ne, eq_self, Int.cast_ofNat_Int, Int.reduceEq, Int.reduceLT, Int.reduceLE, decide_true, decide_false, ofString_inj, String.reduceEq, Option.map_some, Bool.not_true, Bool.not_false, true_implies]
    refine ⟨⟨by omega, by omega⟩, ?_⟩
    refine W_for (fun i σ h' => ∃ y z, σ = [some (.ref p), some (.ref q), some (.int m), some (.ref h1.length), y, z] ∧ (∃ l, h'[h1.length]? = some (.lst l) ∧ l.length = i ∧ ∀ d ∈ l, Atm d) ∧ Ls h' q Lot ∧ Pool h' p (M + 13 * i) ∧ Eg.Fr [p] h h')
      ⟨_, _, rfl, ⟨[], new_at, rfl, by simp⟩, l1.fr (ps := []) Fr.new List.not_mem_nil, p1.fr (ps := []) Fr.new List.not_mem_nil, f1.trans Fr.new⟩ ?_ ?_
    · rintro i d σ h2 e ⟨y, z, rfl, ⟨l, el, ll, la⟩, l2, p2, f2⟩
      obtain ⟨hi, rfl⟩ := rng_get e
      have hi2 : i < m := by omega
      refine ⟨_, rfl, ?_⟩
      rw [W_cons]
      simp only [ex_some, W_var, W_cst, W_bin, W_neg, W_cmp, W_chn, W_and, W_or, W_not, W_ite, W_tup, W_lst, W_dic, W_ix, W_sl, W_fn, W_bi, W_me, W_isi, W_lc, W_a0, W_a1, W_o0, W_o1, W_c0, W_c1, W_iof, W_ir1, W_ir2, W_truR, W_blR, T_and, T_or, T_not, T_var, T_cst, T_cmp, T_chn, T_fn, T_bi, T_isi, S_asg, S_unp, S_set, S_augA, S_augS, S_ex, S_ret, S_retN, S_ife, S_whl, S_fr, S_pas, S_brk, S_cnt, S_rse, b_add, b_sub, b_mul, b_div, b_mod, b_pow, b_str, b_tup, b_ref, c_eq, c_ne, c_in, c_ni, c_lt, c_le, c_gt, c_ge, c_ltS, c_is, c_isN, c_isB, q_int, q_str, q_bl, q_is, q_si, x_tup, x_fl, x_str, x_ref, x_dic, x_dicS, s_tup, s_str, s_fl, s_ref, i_len, i_int, i_intB, i_intS, i_abs, i_str, i_min, i_max, i_sum, i_all, i_any, i_list, i_tuple, n_tup, n_fl, n_ref, n_dic, l_fl, l_ref, e_tup, e_fl, e_ref, it_tup, it_fl, it_str, it_ref, k_app, k_ext, k_pop, k_split, k_part, k_join, m_app, m_ext, m_pop, m_split, m_part, m_join, k_cntT, k_cntS, k_sw, k_up, m_cntT, m_cntS, m_sw, m_up, i_rev, y_str, y_int, y_bl, y_non, y_tup, y_fl, y_ref, y_dic, t_bl, t_int, t_non, t_tup, t_fl, t_ref, g_nm, g_tp, setN0, setN1, wipe0, wipe1, stay0, stay1, at_0, at_1, at_2, at_3, at_4, at_5, at_last, ix_0, ix_1, ix_2, cut_init, new_at, new_at1, app_lt, put_at, put_ne, W_ok, W_nx, W_rt, W_bk, W_ct, W_bad, W_badS, List.getElem?_cons_zero, List.getElem?_cons_succ, List.set_cons_zero, List.set_cons_succ, if_true, if_false, Bool.false_eq_true, true_and, and_true, decide_eq_true_eq, decide_eq_false_iff_not, forall_const, not_true_eq_false, not_false_eq_true, false_implies, implies_true, Option.some.injEq, exists_eq_left', exists_eq_left, exists_and_left, fin_nx, fin_rt, fin_bk, fin_ct, fin_ex, Bool.not_eq_true', Bool.not_eq_false', Bool.true_eq_false, reduceCtorEq, D.bl.injEq, D.int.injEq, D.str.injEq, D.ref.injEq, D.tup.injEq, D.fl.injEq, Ob.lst.injEq, Ob.dic.injEq, List.length_map, List.length_append, List.length_cons, List.length_nil, Nat.reduceAdd, Nat.reduceLT, Nat.reduceLeDiff, Nat.zero_lt_succ, false_and, and_false, exists_false, ty_ne, eq_self, Int.cast_ofNat_Int, Int.reduceEq, Int.reduceLT, Int.reduceLE, decide_true, decide_false, ofString_inj, String.reduceEq, Option.map_some, Bool.not_true, Bool.not_false, true_implies]
      refine (draw_ok (n := n + 1) p2 (by omega) (by omega) (by omega)).imp ?_
      rintro _ h3 ⟨⟨v, rfl, v0, v1⟩, p3, f3, _⟩
      have el3 := f3.at el nr
      obtain ⟨lot, e3, k1, k2⟩ := id (l2.fr f3 nq)
      have fin1 : ∀ (h4 : Hd) (x : D), Atm x → h4[h1.length]? = some (.lst l) → Ls h4 q Lot → Pool h4 p (M + 13 * (i + 1)) → Eg.Fr [p] h h4 → ∀ (y z : Option D),
          ∃ y' z', [some (.ref p), some (.ref q), some (.int m), some (.ref h1.length), y, z] = [some (.ref p), some (.ref q), some (.int m), some (.ref h1.length), y', z'] ∧ (∃ l2, (h4.set h1.length (.lst (l ++ [x])))[h1.length]? = some (.lst l2) ∧ l2.length = i + 1 ∧ ∀ d ∈ l2, Atm d) ∧ Ls (h4.set h1.length (.lst (l ++ [x]))) q Lot ∧ Pool (h4.set h1.length (.lst (l ++ [x]))) p (M + 13 * (i + 1)) ∧ Eg.Fr [p] h (h4.set h1.length (.lst (l ++ [x]))) := by
        intro h4 x ax e4 l4 p4 f4 y z
        refine ⟨y, z, rfl, ⟨_, put_at (lt_of_get e4), by simp [ll], fun d hd => ?_⟩, l4.fr (Fr.putIn (ps := [h1.length]) Fr.refl List.mem_cons_self) (by simpa using nqr), p4.fr (Fr.putIn (ps := [h1.length]) Fr.refl List.mem_cons_self) (by simpa using hr.symm), f4.put f1.le⟩
        rcases List.mem_append.mp hd with z | z
        · exact la d z
        · simp at z; subst z; exact ax
      simp only [ex_some, W_var, W_cst, W_bin, W_neg, W_cmp, W_chn, W_and, W_or, W_not, W_ite, W_tup, W_lst, W_dic, W_ix, W_sl, W_fn, W_bi, W_me, W_isi, W_lc, W_a0, W_a1, W_o0, W_o1, W_c0, W_c1, W_iof, W_ir1, W_ir2, W_truR, W_blR, T_and, T_or, T_not, T_var, T_cst, T_cmp, T_chn, T_fn, T_bi, T_isi, S_asg, S_unp, S_set, S_augA, S_augS, S_ex, S_ret, S_retN, S_ife, S_whl, S_fr, S_pas, S_brk, S_cnt, S_rse, b_add, b_sub, b_mul, b_div, b_mod, b_pow, b_str, b_tup, b_ref, c_eq, c_ne, c_in, c_ni, c_lt, c_le, c_gt, c_ge, c_ltS, c_is, c_isN, c_isB, q_int, q_str, q_bl, q_is, q_si, x_tup, x_fl, x_str, x_ref, x_dic, x_dicS, s_tup, s_str, s_fl, s_ref, i_len, i_int, i_intB, i_intS, i_abs, i_str, i_min, i_max, i_sum, i_all, i_any, i_list, i_tuple, n_tup, n_fl, n_ref, n_dic, l_fl, l_ref, e_tup, e_fl, e_ref, it_tup, it_fl, it_str, it_ref, k_app, k_ext, k_pop, k_split, k_part, k_join, m_app, m_ext, m_pop, m_split, m_part, m_join, k_cntT, k_cntS, k_sw, k_up, m_cntT, m_cntS, m_sw, m_up, i_rev, y_str, y_int, y_bl, y_non, y_tup, y_fl, y_ref, y_dic, t_bl, t_int, t_non, t_tup, t_fl, t_ref, g_nm, g_tp, setN0, setN1, wipe0, wipe1, stay0, stay1, at_0, at_1, at_2, at_3, at_4, at_5, at_last, ix_0, ix_1, ix_2, cut_init, new_at, new_at1, app_lt, put_at, put_ne, W_ok, W_nx, W_rt, W_bk, W_ct, W_bad, W_badS, List.getElem?_cons_zero, List.getElem?_cons_succ, List.set_cons_zero, List.set_cons_succ, if_true, if_false, Bool.false_eq_true, true_and, and_true, decide_eq_true_eq, decide_eq_false_iff_not, forall_const, not_true_eq_false, not_false_eq_true, false_implies, implies_true, Option.some.injEq, exists_eq_left', exists_eq_left, exists_and_left, fin_nx, fin_rt, fin_bk, fin_ct, fin_ex, Bool.not_eq_true', Bool.not_eq_false', Bool.true_eq_false, reduceCtorEq, D.bl.injEq, D.int.injEq, D.str.injEq, D.ref.injEq, D.tup.injEq, D.fl.injEq, Ob.lst.injEq, Ob.dic.injEq, List.length_map, List.length_append, List.length_cons, List.length_nil, Nat.reduceAdd, Nat.reduceLT, Nat.reduceLeDiff, Nat.zero_lt_succ, false_and, and_false, exists_false, ty_ne, eq_self, Int.cast_ofNat_Int, Int.reduceEq, Int.reduceLT, Int.reduceLE, decide_true, decide_false, ofString_inj, String.reduceEq, Option.map_some, Bool.not_true, Bool.not_false, true_implies, W_cons, W_nil, el3, e3]
      refine ⟨fun hv => ?_, fun _ => ⟨fun _ => ?_, fun _ => ?_⟩⟩
      · obtain ⟨x, ex, ex2⟩ := atI_of (xs := lot) v0 (by rw [k1]; exact hv)
        refine ⟨x, ex, ?_⟩
        exact ⟨lim_lt (by omega), fin1 h3 x (k2 x (List.mem_of_getElem? ex2)) el3 ⟨lot, e3, k1, k2⟩ (p3.mono (by omega)) (f2.trans f3) _ _⟩
      · have h0 : 0 < lot.length := by omega
        refine ⟨_, List.getElem?_eq_getElem h0, ?_⟩
        exact ⟨lim_lt (by omega), fin1 h3 _ (k2 _ (List.getElem_mem h0)) el3 ⟨lot, e3, k1, k2⟩ (p3.mono (by omega)) (f2.trans f3) _ _⟩
      · refine (fresh_ok (n := n) p3 (by omega)).imp ?_
        rintro x h4 ⟨ax, p4, f4⟩
        have el4 := f4.at el3 nr
        simp only [ex_some, W_var, W_cst, W_bin, W_neg, W_cmp, W_chn, W_and, W_or, W_not, W_ite, W_tup, W_lst, W_dic, W_ix, W_sl, W_fn, W_bi, W_me, W_isi, W_lc, W_a0, W_a1, W_o0, W_o1, W_c0, W_c1, W_iof, W_ir1, W_ir2, W_truR, W_blR, T_and, T_or, T_not, T_var, T_cst, T_cmp, T_chn, T_fn, T_bi, T_isi, S_asg, S_unp, S_set, S_augA, S_augS, S_ex, S_ret, S_retN, S_ife, S_whl, S_fr, S_pas, S_brk, S_cnt, S_rse, b_add, b_sub, b_mul, b_div, b_mod, b_pow, b_str, b_tup, b_ref, c_eq, c_ne, c_in, c_ni, c_lt, c_le, c_gt, c_ge, c_ltS, c_is, c_isN, c_isB, q_int, q_str, q_bl, q_is, q_si, x_tup, x_fl, x_str, x_ref, x_dic, x_dicS, s_tup, s_str, s_fl, s_ref, i_len, i_int, i_intB, i_intS, i_abs, i_str, i_min, i_max, i_sum, i_all, i_any, i_list, i_tuple, n_tup, n_fl, n_ref, n_dic, l_fl, l_ref, e_tup, e_fl, e_ref, it_tup, it_fl, it_str, it_ref, k_app, k_ext, k_pop, k_split, k_part, k_join, m_app, m_ext, m_pop, m_split, m_part, m_join, k_cntT, k_cntS, k_sw, k_up, m_cntT, m_cntS, m_sw, m_up, i_rev, y_str, y_int, y_bl, y_non, y_tup, y_fl, y_ref, y_dic, t_bl, t_int, t_non, t_tup, t_fl, t_ref, g_nm, g_tp, setN0, setN1, wipe0, wipe1, stay0, stay1, at_0, at_1, at_2, at_3, at_4, at_5, at_last, ix_0, ix_1, ix_2, cut_init, new_at, new_at1, app_lt, put_at, put_ne, W_ok, W_nx, W_rt, W_bk, W_ct, W_bad, W_badS, List.getElem?_cons_zero, List.getElem?_cons_succ, List.set_cons_zero, List.set_cons_succ, if_true, if_false, Bool.false_eq_true, true_and, and_true, decide_eq_true_eq, decide_eq_false_iff_not, forall_const, not_true_eq_false, not_false_eq_true, false_implies, implies_true, Option.some.injEq, exists_eq_left', exists_eq_left, exists_and_left, fin_nx, fin_rt, fin_bk, fin_ct, fin_ex, Bool.not_eq_true', Bool.not_eq_false', Bool.true_eq_false, reduceCtorEq, D.bl.injEq, D.int.injEq, D.str.injEq, D.ref.injEq, D.tup.injEq, D.fl.injEq, Ob.lst.injEq, Ob.dic.injEq, List.length_map, List.length_append, List.length_cons, List.length_nil, Nat.reduceAdd, Nat.reduceLT, Nat.reduceLeDiff, Nat.zero_lt_succ, false_and, and_false, exists_false, ty_ne, eq_self, Int.cast_ofNat_Int, Int.reduceEq, Int.reduceLT, Int.reduceLE, decide_true, decide_false, ofString_inj, String.reduceEq, Option.map_some, Bool.not_true, Bool.not_false, true_implies, W_cons, W_nil, el4]
        exact ⟨lim_lt (by omega), fin1 h4 x ax el4 (Ls.fr ⟨lot, e3, k1, k2⟩ f4 nq) (p4.mono (by omega)) ((f2.trans f3).trans f4) _ _⟩
    · rintro σ h2 ⟨y, z, rfl, ⟨l, el, ll, la⟩, l2, p2, f2⟩
      rw [rng_len] at ll p2
      simp only [ex_some, W_var, W_cst, W_bin, W_neg, W_cmp, W_chn, W_and, W_or, W_not, W_ite, W_tup, W_lst, W_dic, W_ix, W_sl, W_fn, W_bi, W_me, W_isi, W_lc, W_a0, W_a1, W_o0, W_o1, W_c0, W_c1, W_iof, W_ir1, W_ir2, W_truR, W_blR, T_and, T_or, T_not, T_var, T_cst, T_cmp, T_chn, T_fn, T_bi, T_isi, S_asg, S_unp, S_set, S_augA, S_augS, S_ex, S_ret, S_retN, S_ife, S_whl, S_fr, S_pas, S_brk, S_cnt, S_rse, b_add, b_sub, b_mul, b_div, b_mod, b_pow, b_str, b_tup, b_ref, c_eq, c_ne, c_in, c_ni, c_lt, c_le, c_gt, c_ge, c_ltS, c_is, c_isN, c_isB, q_int, q_str, q_bl, q_is, q_si, x_tup, x_fl, x_str, x_ref, x_dic, x_dicS, s_tup, s_str, s_fl, s_ref, i_len, i_int, i_intB, i_intS, i_abs, i_str, i_min, i_max, i_sum, i_all, i_any, i_list, i_tuple, n_tup, n_fl, n_ref, n_dic, l_fl, l_ref, e_tup, e_fl, e_ref, it_tup, it_fl, it_str, it_ref, k_app, k_ext, k_pop, k_split, k_part, k_join, m_app, m_ext, m_pop, m_split, m_part, m_join, k_cntT, k_cntS, k_sw, k_up, m_cntT, m_cntS, m_sw, m_up, i_rev, y_str, y_int, y_bl, y_non, y_tup, y_fl, y_ref, y_dic, t_bl, t_int, t_non, t_tup, t_fl, t_ref, g_nm, g_tp, setN0, setN1, wipe0, wipe1, stay0, stay1, at_0, at_1, at_2, at_3, at_4, at_5, at_last, ix_0, ix_1, ix_2, cut_init, new_at, new_at1, app_lt, put_at, put_ne, W_ok, W_nx, W_rt, W_bk, W_ct, W_bad, W_badS, List.getElem?_cons_zero, List.getElem?_cons_succ, List.set_cons_zero, List.set_cons_succ, if_true, if_false, Bool.false_eq_true, true_and, and_true, decide_eq_true_eq, decide_eq_false_iff_not, forall_const, not_true_eq_false, not_false_eq_true, false_implies, implies_true, Option.some.injEq, exists_eq_left', exists_eq_left, exists_and_left, fin_nx, fin_rt, fin_bk, fin_ct, fin_ex, Bool.not_eq_true', Bool.not_eq_false', Bool.true_eq_false, reduceCtorEq, D.bl.injEq, D.int.injEq, D.str.injEq, D.ref.injEq, D.tup.injEq, D.fl.injEq, Ob.lst.injEq, Ob.dic.injEq, List.length_map, List.length_append, List.length_cons, List.length_nil, Nat.reduceAdd, Nat.reduceLT, Nat.reduceLeDiff, Nat.zero_lt_succ, false_and, and_false, exists_false, ty_ne, eq_self, Int.cast_ofNat_Int, Int.reduceEq, Int.reduceLT, Int.reduceLE, decide_true, decide_false, ofString_inj, String.reduceEq, Option.map_some, Bool.not_true, Bool.not_false, true_implies, W_cons, W_nil]
      exact ⟨hr, ⟨l, el, by omega, by omega, la⟩, p2.mono (by omega), f2⟩
  simp only [c__law_row, c__law_row_1, startD, List.map_cons, List.map_nil, List.length_cons, List.length_nil, List.replicate, List.cons_append, List.nil_append, Nat.reduceSub, Nat.reduceAdd]
  rw [W_cons]
  simp only [ex_some, W_var, W_cst, W_bin, W_neg, W_cmp, W_chn, W_and, W_or, W_not, W_ite, W_tup, W_lst, W_dic, W_ix, W_sl, W_fn, W_bi, W_me, W_isi, W_lc, W_a0, W_a1, W_o0, W_o1, W_c0, W_c1, W_iof, W_ir1, W_ir2, W_truR, W_blR, T_and, T_or, T_not, T_var, T_cst, T_cmp, T_chn, T_fn, T_bi, T_isi, S_asg, S_unp, S_set, S_augA, S_augS, S_ex, S_ret, S_retN, S_ife, S_whl, S_fr, S_pas, S_brk, S_cnt, S_rse, b_add, b_sub, b_mul, b_div, b_mod, b_pow, b_str, b_tup, b_ref, c_eq, c_ne, c_in, c_ni, c_lt, c_le, c_gt, c_ge, c_ltS, c_is, c_isN, c_isB, q_int, q_str, q_bl, q_is, q_si, x_tup, x_fl, x_str, x_ref, x_dic, x_dicS, s_tup, s_str, s_fl, s_ref, i_len, i_int, i_intB, i_intS, i_abs, i_str, i_min, i_max, i_sum, i_all, i_any, i_list, i_tuple, n_tup, n_fl, n_ref, n_dic, l_fl, l_ref, e_tup, e_fl, e_ref, it_tup, it_fl, it_str, it_ref, k_app, k_ext, k_pop, k_split, k_part, k_join, m_app, m_ext, m_pop, m_split, m_part, m_join, k_cntT, k_cntS, k_sw, k_up, m_cntT, m_cntS, m_sw, m_up, i_rev, y_str, y_int, y_bl, y_non, y_tup, y_fl, y_ref, y_dic, t_bl, t_int, t_non, t_tup, t_fl, t_ref, g_nm, g_tp, setN0, setN1, wipe0, wipe1, stay0, stay1, at_0, at_1, at_2, at_3, at_4, at_5, at_last, ix_0, ix_1, ix_2, cut_init, new_at, new_at1, app_lt, put_at, put_ne, W_ok, W_nx, W_rt, W_bk, W_ct, W_bad, W_badS, List.getElem?_cons_zero, List.getElem?_cons_succ, List.set_cons_zero, List.set_cons_succ, if_true, if_false, Bool.false_eq_true, true_and, and_true, decide_eq_true_eq, decide_eq_false_iff_not, forall_const, not_true_eq_false, not_false_eq_true, false_implies, implies_true, Option.some.injEq, exists_eq_left', exists_eq_left, exists_and_left, fin_nx, fin_rt, fin_bk, fin_ct, fin_ex, Bool.not_eq_true', Bool.not_eq_false', Bool.true_eq_false, reduceCtorEq, D.bl.injEq, D.int.injEq, D.str.injEq, D.ref.injEq, D.tup.injEq, D.fl.injEq, Ob.lst.injEq, Ob.dic.injEq, List.length_map, List.length_append, List.length_cons, List.length_nil, Nat.reduceAdd, Nat.reduceLT, Nat.reduceLeDiff, Nat.zero_lt_succ, false_and, and_false, exists_false, ty_ne, eq_self, Int.cast_ofNat_Int, Int.reduceEq, Int.reduceLT, Int.reduceLE, decide_true, decide_false, ofString_inj, String.reduceEq, Option.map_some, Bool.not_true, Bool.not_false, true_implies]
  refine (draw_ok (n := n + 1) hp (by omega) (by omega) (by omega)).imp ?_
  rintro _ h1 ⟨⟨v, rfl, v0, v1⟩, p1, f1, _⟩
  simp only [ex_some, W_var, W_cst, W_bin, W_neg, W_cmp, W_chn, W_and, W_or, W_not, W_ite, W_tup, W_lst, W_dic, W_ix, W_sl, W_fn, W_bi, W_me, W_isi, W_lc, W_a0, W_a1, W_o0, W_o1, W_c0, W_c1, W_iof, W_ir1, W_ir2, W_truR, W_blR, T_and, T_or, T_not, T_var, T_cst, T_cmp, T_chn, T_fn, T_bi, T_isi, S_asg, S_unp, S_set, S_augA, S_augS, S_ex, S_ret, S_retN, S_ife, S_whl, S_fr, S_pas, S_brk, S_cnt, S_rse, b_add, b_sub, b_mul, b_div, b_mod, b_pow, b_str, b_tup, b_ref, c_eq, c_ne, c_in, c_ni, c_lt, c_le, c_gt, c_ge, c_ltS, c_is, c_isN, c_isB, q_int, q_str, q_bl, q_is, q_si, x_tup, x_fl, x_str, x_ref, x_dic, x_dicS, s_tup, s_str, s_fl, s_ref, i_len, i_int, i_intB, i_intS, i_abs, i_str, i_min, i_max, i_sum, i_all, i_any, i_list, i_tuple, n_tup, n_fl, n_ref, n_dic, l_fl, l_ref, e_tup, e_fl, e_ref, it_tup, it_fl, it_str, it_ref, k_app, k_ext, k_pop, k_split, k_part, k_join, m_app, m_ext, m_pop, m_split, m_part, m_join, k_cntT, k_cntS, k_sw, k_up, m_cntT, m_cntS, m_sw, m_up, i_rev, y_str, y_int, y_bl, y_non, y_tup, y_fl, y_ref, y_dic, t_bl, t_int, t_non, t_tup, t_fl, t_ref, g_nm, g_tp, setN0, setN1, wipe0, wipe1, stay0, stay1, at_0, at_1, at_2, at_3, at_4, at_5, at_last, ix_0, ix_1, ix_2, cut_init, new_at, new_at1, app_lt, put_at, put_ne, W_ok, W_nx, W_rt, W_bk, W_ct, W_bad, W_badS, List.getElem?_cons_zero, List.getElem?_cons_succ, List.set_cons_zero, List.set_cons_succ, if_true, if_false, Bool.false_eq_true, true_and, and_true, decide_eq_true_eq, decide_eq_false_iff_not, forall_const, not_true_eq_false, not_false_eq_true, false_implies, implies_true, Option.some.injEq, exists_eq_left', exists_eq_left, exists_and_left, fin_nx, fin_rt, fin_bk, fin_ct, fin_ex, Bool.not_eq_true', Bool.not_eq_false', Bool.true_eq_false, reduceCtorEq, D.bl.injEq, D.int.injEq, D.str.injEq, D.ref.injEq, D.tup.injEq, D.fl.injEq, Ob.lst.injEq, Ob.dic.injEq, List.length_map, List.length_append, List.length_cons, List.length_nil, Nat.reduceAdd, Nat.reduceLT, Nat.reduceLeDiff, Nat.zero_lt_succ, false_and, and_false, exists_false, ty_ne, eq_self, Int.cast_ofNat_Int, Int.reduceEq, Int.reduceLT, Int.reduceLE, decide_true, decide_false, ofString_inj, String.reduceEq, Option.map_some, Bool.not_true, Bool.not_false, true_implies]
  rw [W_cons]
  simp only [ex_some, W_var, W_cst, W_bin, W_neg, W_cmp, W_chn, W_and, W_or, W_not, W_ite, W_tup, W_lst, W_dic, W_ix, W_sl, W_fn, W_bi, W_me, W_isi, W_lc, W_a0, W_a1, W_o0, W_o1, W_c0, W_c1, W_iof, W_ir1, W_ir2, W_truR, W_blR, T_and, T_or, T_not, T_var, T_cst, T_cmp, T_chn, T_fn, T_bi, T_isi, S_asg, S_unp, S_set, S_augA, S_augS, S_ex, S_ret, S_retN, S_ife, S_whl, S_fr, S_pas, S_brk, S_cnt, S_rse, b_add, b_sub, b_mul, b_div, b_mod, b_pow, b_str, b_tup, b_ref, c_eq, c_ne, c_in, c_ni, c_lt, c_le, c_gt, c_ge, c_ltS, c_is, c_isN, c_isB, q_int, q_str, q_bl, q_is, q_si, x_tup, x_fl, x_str, x_ref, x_dic, x_dicS, s_tup, s_str, s_fl, s_ref, i_len, i_int, i_intB, i_intS, i_abs, i_str, i_min, i_max, i_sum, i_all, i_any, i_list, i_tuple, n_tup, n_fl, n_ref, n_dic, l_fl, l_ref, e_tup, e_fl, e_ref, it_tup, it_fl, it_str, it_ref, k_app, k_ext, k_pop, k_split, k_part, k_join, m_app, m_ext, m_pop, m_split, m_part, m_join, k_cntT, k_cntS, k_sw, k_up, m_cntT, m_cntS, m_sw, m_up, i_rev, y_str, y_int, y_bl, y_non, y_tup, y_fl, y_ref, y_dic, t_bl, t_int, t_non, t_tup, t_fl, t_ref, g_nm, g_tp, setN0, setN1, wipe0, wipe1, stay0, stay1, at_0, at_1, at_2, at_3, at_4, at_5, at_last, ix_0, ix_1, ix_2, cut_init, new_at, new_at1, app_lt, put_at, put_ne, W_ok, W_nx, W_rt, W_bk, W_ct, W_bad, W_badS, List.getElem?_cons_zero, List.getElem?_cons_succ, List.set_cons_zero, List.set_cons_succ, if_true, if_false, Bool.false_eq_true, true_and, and_true, decide_eq_true_eq, decide_eq_false_iff_not, forall_const, not_true_eq_false, not_false_eq_true, false_implies, implies_true, Option.some.injEq, exists_eq_left', exists_eq_left, exists_and_left, fin_nx, fin_rt, fin_bk, fin_ct, fin_ex, Bool.not_eq_true', Bool.not_eq_false', Bool.true_eq_false, reduceCtorEq, D.bl.injEq, D.int.injEq, D.str.injEq, D.ref.injEq, D.tup.injEq, D.fl.injEq, Ob.lst.injEq, Ob.dic.injEq, List.length_map, List.length_append, List.length_cons, List.length_nil, Nat.reduceAdd, Nat.reduceLT, Nat.reduceLeDiff, Nat.zero_lt_succ, false_and, and_false, exists_false, ty_ne, eq_self, Int.cast_ofNat_Int, Int.reduceEq, Int.reduceLT, Int.reduceLE, decide_true, decide_false, ofString_inj, String.reduceEq, Option.map_some, Bool.not_true, Bool.not_false, true_implies]
  refine (draw_ok (n := n + 1) p1 (by omega) (by omega) (by omega)).imp ?_
  rintro _ h2 ⟨⟨w, rfl, w0, w1⟩, p2, f2, _⟩
  obtain ⟨m, hm⟩ : ∃ m : Nat, 1 + v = m := ⟨(1 + v).toNat, by omega⟩
  have l2 := (hl.fr f1 nq).fr f2 nq
  simp only [ex_some, W_var, W_cst, W_bin, W_neg, W_cmp, W_chn, W_and, W_or, W_not, W_ite, W_tup, W_lst, W_dic, W_ix, W_sl, W_fn, W_bi, W_me, W_isi, W_lc, W_a0, W_a1, W_o0, W_o1, W_c0, W_c1, W_iof, W_ir1, W_ir2, W_truR, W_blR, T_and, T_or, T_not, T_var, T_cst, T_cmp, T_chn, T_fn, T_bi, T_isi, S_asg, S_unp, S_set, S_augA, S_augS, S_ex, S_ret, S_retN, S_ife, S_whl, S_fr, S_pas, S_brk, S_cnt, S_rse, b_add, b_sub, b_mul, b_div, b_mod, b_pow, b_str, b_tup, b_ref, c_eq, c_ne, c_in, c_ni, c_lt, c_le, c_gt, c_ge, c_ltS, c_is, c_isN, c_isB, q_int, q_str, q_bl, q_is, q_si, x_tup, x_fl, x_str, x_ref, x_dic, x_dicS, s_tup, s_str, s_fl, s_ref, i_len, i_int, i_intB, i_intS, i_abs, i_str, i_min, i_max, i_sum, i_all, i_any, i_list, i_tuple, n_tup, n_fl, n_ref, n_dic, l_fl, l_ref, e_tup, e_fl, e_ref, it_tup, it_fl, it_str, it_ref, k_app, k_ext, k_pop, k_split, k_part, k_join, m_app, m_ext, m_pop, m_split, m_part, m_join, k_cntT, k_cntS, k_sw, k_up, m_cntT, m_cntS, m_sw, m_up, i_rev, y_str, y_int, y_bl, y_non, y_tup, y_fl, y_ref, y_dic, t_bl, t_int, t_non, t_tup, t_fl, t_ref, g_nm, g_tp, setN0, setN1, wipe0, wipe1, stay0, stay1, at_0, at_1, at_2, at_3, at_4, at_5, at_last, ix_0, ix_1, ix_2, cut_init, new_at, new_at1, app_lt, put_at, put_ne, W_ok, W_nx, W_rt, W_bk, W_ct, W_bad, W_badS, List.getElem?_cons_zero, List.getElem?_cons_succ, List.set_cons_zero, List.set_cons_succ, if_true, if_false, Bool.false_eq_true, true_and, and_true, decide_eq_true_eq, decide_eq_false_iff_not, forall_const, not_true_eq_false, not_false_eq_true, false_implies, implies_true, Option.some.injEq, exists_eq_left', exists_eq_left, exists_and_left, fin_nx, fin_rt, fin_bk, fin_ct, fin_ex, Bool.not_eq_true', Bool.not_eq_false', Bool.true_eq_false, reduceCtorEq, D.bl.injEq, D.int.injEq, D.str.injEq, D.ref.injEq, D.tup.injEq, D.fl.injEq, Ob.lst.injEq, Ob.dic.injEq, List.length_map, List.length_append, List.length_cons, List.length_nil, Nat.reduceAdd, Nat.reduceLT, Nat.reduceLeDiff, Nat.zero_lt_succ, false_and, and_false, exists_false, ty_ne, eq_self, Int.cast_ofNat_Int, Int.reduceEq, Int.reduceLT, Int.reduceLE, decide_true, decide_false, ofString_inj, String.reduceEq, Option.map_some, Bool.not_true, Bool.not_false, true_implies, W_nil]
  refine ⟨fun _ => ?_, fun _ => ?_⟩
  · rw [W_cons]
    simp only [ex_some, W_var, W_cst, W_bin, W_neg, W_cmp, W_chn, W_and, W_or, W_not, W_ite, W_tup, W_lst, W_dic, W_ix, W_sl, W_fn, W_bi, W_me, W_isi, W_lc, W_a0, W_a1, W_o0, W_o1, W_c0, W_c1, W_iof, W_ir1, W_ir2, W_truR, W_blR, T_and, T_or, T_not, T_var, T_cst, T_cmp, T_chn, T_fn, T_bi, T_isi, S_asg, S_unp, S_set, S_augA, S_augS, S_ex, S_ret, S_retN, S_ife, S_whl, S_fr, S_pas, S_brk, S_cnt, S_rse, b_add, b_sub, b_mul, b_div, b_mod, b_pow, b_str, b_tup, b_ref, c_eq, c_ne, c_in, c_ni, c_lt, c_le, c_gt, c_ge, c_ltS, c_is, c_isN, c_isB, q_int, q_str, q_bl, q_is, q_si, x_tup, x_fl, x_str, x_ref, x_dic, x_dicS, s_tup, s_str, s_fl, s_ref, i_len, i_int, i_intB, i_intS, i_abs, i_str, i_min, i_max, i_sum, i_all, i_any, i_list, i_tuple, n_tup, n_fl, n_ref, n_dic, l_fl, l_ref, e_tup, e_fl, e_ref, it_tup, it_fl, it_str, it_ref, k_app, k_ext, k_pop, k_split, k_part, k_join, m_app, m_ext, m_pop, m_split, m_part, m_join, k_cntT, k_cntS, k_sw, k_up, m_cntT, m_cntS, m_sw, m_up, i_rev, y_str, y_int, y_bl, y_non, y_tup, y_fl, y_ref, y_dic, t_bl, t_int, t_non, t_tup, t_fl, t_ref, g_nm, g_tp, setN0, setN1, wipe0, wipe1, stay0, stay1, at_0, at_1, at_2, at_3, at_4, at_5, at_last, ix_0, ix_1, ix_2, cut_init, new_at, new_at1, app_lt, put_at, put_ne, W_ok, W_nx, W_rt, W_bk, W_ct, W_bad, W_badS, List.getElem?_cons_zero, List.getElem?_cons_succ, List.set_cons_zero, List.set_cons_succ, if_true, if_false, Bool.false_eq_true, true_and, and_true, decide_eq_true_eq, decide_eq_false_iff_not, forall_const, not_true_eq_false, not_false_eq_true, false_implies, implies_true, Option.some.injEq, exists_eq_left', exists_eq_left, exists_and_left, fin_nx, fin_rt, fin_bk, fin_ct, fin_ex, Bool.not_eq_true', Bool.not_eq_false', Bool.true_eq_false, reduceCtorEq, D.bl.injEq, D.int.injEq, D.str.injEq, D.ref.injEq, D.tup.injEq, D.fl.injEq, Ob.lst.injEq, Ob.dic.injEq, List.length_map, List.length_append, List.length_cons, List.length_nil, Nat.reduceAdd, Nat.reduceLT, Nat.reduceLeDiff, Nat.zero_lt_succ, false_and, and_false, exists_false, ty_ne, eq_self, Int.cast_ofNat_Int, Int.reduceEq, Int.reduceLT, Int.reduceLE, decide_true, decide_false, ofString_inj, String.reduceEq, Option.map_some, Bool.not_true, Bool.not_false, true_implies, W_nil]
    refine (draw_ok (n := n + 1) p2 (by omega) (by omega) (by omega)).imp ?_
    rintro _ h3 ⟨⟨a, rfl, a0, a1⟩, p3, f3, _⟩
    simp only [ex_some, W_var, W_cst, W_bin, W_neg, W_cmp, W_chn, W_and, W_or, W_not, W_ite, W_tup, W_lst, W_dic, W_ix, W_sl, W_fn, W_bi, W_me, W_isi, W_lc, W_a0, W_a1, W_o0, W_o1, W_c0, W_c1, W_iof, W_ir1, W_ir2, W_truR, W_blR, T_and, T_or, T_not, T_var, T_cst, T_cmp, T_chn, T_fn, T_bi, T_isi, S_asg, S_unp, S_set, S_augA, S_augS, S_ex, S_ret, S_retN, S_ife, S_whl, S_fr, S_pas, S_brk, S_cnt, S_rse, b_add, b_sub, b_mul, b_div, b_mod, b_pow, b_str, b_tup, b_ref, c_eq, c_ne, c_in, c_ni, c_lt, c_le, c_gt, c_ge, c_ltS, c_is, c_isN, c_isB, q_int, q_str, q_bl, q_is, q_si, x_tup, x_fl, x_str, x_ref, x_dic, x_dicS, s_tup, s_str, s_fl, s_ref, i_len, i_int, i_intB, i_intS, i_abs, i_str, i_min, i_max, i_sum, i_all, i_any, i_list, i_tuple, n_tup, n_fl, n_ref, n_dic, l_fl, l_ref, e_tup, e_fl, e_ref, it_tup, it_fl, it_str, it_ref, k_app, k_ext, k_pop, k_split, k_part, k_join, m_app, m_ext, m_pop, m_split, m_part, m_join, k_cntT, k_cntS, k_sw, k_up, m_cntT, m_cntS, m_sw, m_up, i_rev, y_str, y_int, y_bl, y_non, y_tup, y_fl, y_ref, y_dic, t_bl, t_int, t_non, t_tup, t_fl, t_ref, g_nm, g_tp, setN0, setN1, wipe0, wipe1, stay0, stay1, at_0, at_1, at_2, at_3, at_4, at_5, at_last, ix_0, ix_1, ix_2, cut_init, new_at, new_at1, app_lt, put_at, put_ne, W_ok, W_nx, W_rt, W_bk, W_ct, W_bad, W_badS, List.getElem?_cons_zero, List.getElem?_cons_succ, List.set_cons_zero, List.set_cons_succ, if_true, if_false, Bool.false_eq_true, true_and, and_true, decide_eq_true_eq, decide_eq_false_iff_not, forall_const, not_true_eq_false, not_false_eq_true, false_implies, implies_true, Option.some.injEq, exists_eq_left', exists_eq_left, exists_and_left, fin_nx, fin_rt, fin_bk, fin_ct, fin_ex, Bool.not_eq_true', Bool.not_eq_false', Bool.true_eq_false, reduceCtorEq, D.bl.injEq, D.int.injEq, D.str.injEq, D.ref.injEq, D.tup.injEq, D.fl.injEq, Ob.lst.injEq, Ob.dic.injEq, List.length_map, List.length_append, List.length_cons, List.length_nil, Nat.reduceAdd, Nat.reduceLT, Nat.reduceLeDiff, Nat.zero_lt_succ, false_and, and_false, exists_false, ty_ne, eq_self, Int.cast_ofNat_Int, Int.reduceEq, Int.reduceLT, Int.reduceLE, decide_true, decide_false, ofString_inj, String.reduceEq, Option.map_some, Bool.not_true, Bool.not_false, true_implies]
    refine ⟨by decide, ?_⟩
    have p3' : Pool (h3 ++ [Ob.lst [D.int 40, D.int 39, D.int (9 + a)]]) p (N + 1 + 1 + 1) := p3.fr (ps := []) Fr.new List.not_mem_nil
    refine (draw_ok (n := n + 1) p3' (by omega) (by omega) (by omega)).imp ?_
    rintro _ h4 ⟨⟨c, rfl, c0, c1⟩, p4, f4, _⟩
    have e4 : h4[h3.length]? = some (.lst [D.int 40, D.int 39, D.int (9 + a)]) := f4.at new_at (by have := p3.lt; simp; omega)
    simp only [ex_some, W_var, W_cst, W_bin, W_neg, W_cmp, W_chn, W_and, W_or, W_not, W_ite, W_tup, W_lst, W_dic, W_ix, W_sl, W_fn, W_bi, W_me, W_isi, W_lc, W_a0, W_a1, W_o0, W_o1, W_c0, W_c1, W_iof, W_ir1, W_ir2, W_truR, W_blR, T_and, T_or, T_not, T_var, T_cst, T_cmp, T_chn, T_fn, T_bi, T_isi, S_asg, S_unp, S_set, S_augA, S_augS, S_ex, S_ret, S_retN, S_ife, S_whl, S_fr, S_pas, S_brk, S_cnt, S_rse, b_add, b_sub, b_mul, b_div, b_mod, b_pow, b_str, b_tup, b_ref, c_eq, c_ne, c_in, c_ni, c_lt, c_le, c_gt, c_ge, c_ltS, c_is, c_isN, c_isB, q_int, q_str, q_bl, q_is, q_si, x_tup, x_fl, x_str, x_ref, x_dic, x_dicS, s_tup, s_str, s_fl, s_ref, i_len, i_int, i_intB, i_intS, i_abs, i_str, i_min, i_max, i_sum, i_all, i_any, i_list, i_tuple, n_tup, n_fl, n_ref, n_dic, l_fl, l_ref, e_tup, e_fl, e_ref, it_tup, it_fl, it_str, it_ref, k_app, k_ext, k_pop, k_split, k_part, k_join, m_app, m_ext, m_pop, m_split, m_part, m_join, k_cntT, k_cntS, k_sw, k_up, m_cntT, m_cntS, m_sw, m_up, i_rev, y_str, y_int, y_bl, y_non, y_tup, y_fl, y_ref, y_dic, t_bl, t_int, t_non, t_tup, t_fl, t_ref, g_nm, g_tp, setN0, setN1, wipe0, wipe1, stay0, stay1, at_0, at_1, at_2, at_3, at_4, at_5, at_last, ix_0, ix_1, ix_2, cut_init, new_at, new_at1, app_lt, put_at, put_ne, W_ok, W_nx, W_rt, W_bk, W_ct, W_bad, W_badS, List.getElem?_cons_zero, List.getElem?_cons_succ, List.set_cons_zero, List.set_cons_succ, if_true, if_false, Bool.false_eq_true, true_and, and_true, decide_eq_true_eq, decide_eq_false_iff_not, forall_const, not_true_eq_false, not_false_eq_true, false_implies, implies_true, Option.some.injEq, exists_eq_left', exists_eq_left, exists_and_left, fin_nx, fin_rt, fin_bk, fin_ct, fin_ex, Bool.not_eq_true', Bool.not_eq_false', Bool.true_eq_false, reduceCtorEq, D.bl.injEq, D.int.injEq, D.str.injEq, D.ref.injEq, D.tup.injEq, D.fl.injEq, Ob.lst.injEq, Ob.dic.injEq, List.length_map, List.length_append, List.length_cons, List.length_nil, Nat.reduceAdd, Nat.reduceLT, Nat.reduceLeDiff, Nat.zero_lt_succ, false_and, and_false, exists_false, ty_ne, eq_self, Int.cast_ofNat_Int, Int.reduceEq, Int.reduceLT, Int.reduceLE, decide_true, decide_false, ofString_inj, String.reduceEq, Option.map_some, Bool.not_true, Bool.not_false, true_implies, e4]
    obtain ⟨x, ex, ex2⟩ := atI_of (xs := [D.int 40, D.int 39, D.int (9 + a)]) c0 c1
    refine ⟨x, ex, ?_⟩
    obtain ⟨j, rfl, j1, j2⟩ : ∃ j : Nat, x = .int j ∧ 1 ≤ j ∧ j ≤ 40 := by
      have mm := List.mem_of_getElem? ex2
      simp only [List.mem_cons, List.not_mem_nil, or_false] at mm
      rcases mm with rfl | rfl | rfl
      · exact ⟨40, rfl, by omega, by omega⟩
      · exact ⟨39, rfl, by omega, by omega⟩
      · exact ⟨(9 + a).toNat, by congr 1; omega, by omega, by omega⟩
    exact rest h4 (N + 4) j p4 (by omega) j1 j2 (((l2.fr f3 nq).fr (ps := []) Fr.new List.not_mem_nil).fr f4 nq) (((f1.trans f2).trans f3).trans (Fr.new.trans f4))
  · rw [hm]
    exact rest h2 (N + 2) m p2 (by omega) (by omega) (by omega) l2 (f1.trans f2)
end
/-! ### kinds -/
inductive KB : List Str → D → Prop where
  | leaf {s : Str} : KB [s] (.str s)
  | node {sg : Str} {xs ys : List Str} {a b : D} (ha : KB xs a) (hb : KB ys b) : KB (xs ++ ys) (.tup [.str sg, a, b])
theorem KB.pos {xs : List Str} {d : D} (k : KB xs d) : 1 ≤ xs.length := by
  induction k with
  | leaf => simp
  | node _ _ h1 h2 => simp; omega
section
variable {wf : Nat} {E : Nat → Hd → Prop} {p : Nat}
theorem bracket_ok : ∀ (m n N : Nat) (ts : List Str) (t : Nat) (w : Int) (h : Hd), ts.length = m → 1 ≤ m → m ≤ 40 → Pool h p N → h[t]? = some (.lst (ts.map D.str)) → t ≠ p → N + 2 * m ≤ 1000000 →
    (callN P wf (n + m + 3) 14 [.ref p, .ref t, .int w] h).W E (fun d h' => KB ts d ∧ Pool h' p (N + (2 * m - 2)) ∧ Eg.Fr [p] h h') := by
  intro m
  induction m using Nat.strongRecOn with
  | ind m ih =>
    intro n N ts t w h hm m1 m2 hp et nt hN
    have nt' : t ∉ [p] := by simpa using nt
    refine W_call (n := n + m + 2) P__law_bracket rfl ?_
    have tail : ∀ (h1 : Hd) (M k : Nat), Pool h1 p M → M ≤ N + 1 → 1 ≤ k → k < m → Eg.Fr [p] h h1 → (evB (callN P wf (n + m + 2)) wf c__law_bracket_4 [some (.ref p), some (.ref t), some (.int w), some (.int k), none, none] h1).W (fin E fun d h' => KB ts d ∧ Pool h' p (N + (2 * m - 2)) ∧ Eg.Fr [p] h h') := by
      intro h1 M k p1 hM k1 k2 f1
      have e1 := f1.at et nt'
      simp only [c__law_bracket_4, c__law_bracket_5, c__law_bracket_6]
      rw [W_cons]
      simp only [ex_some, W_var, W_cst, W_bin, W_neg, W_cmp, W_chn, W_and, W_or, W_not, W_ite, W_tup, W_lst, W_dic, W_ix, W_sl, W_fn, W_bi, W_me, W_isi, W_lc, W_a0, W_a1, W_o0, W_o1, W_c0, W_c1, W_iof, W_ir1, W_ir2, W_truR, W_blR, T_and, T_or, T_not, T_var, T_cst, T_cmp, T_chn, T_fn, T_bi, T_isi, S_asg, S_unp, S_set, S_augA, S_augS, S_ex, S_ret, S_retN, S_ife, S_whl, S_fr, S_pas, S_brk, S_cnt, S_rse, b_add, b_sub, b_mul, b_div, b_mod, b_pow, b_str, b_tup, b_ref, c_eq, c_ne, c_in, c_ni, c_lt, c_le, c_gt, c_ge, c_ltS, c_is, c_isN, c_isB, q_int, q_str, q_bl, q_is, q_si, x_tup, x_fl, x_str, x_ref, x_dic, x_dicS, s_tup, s_str, s_fl, s_ref, i_len, i_int, i_intB, i_intS, i_abs, i_str, i_min, i_max, i_sum, i_all, i_any, i_list, i_tuple, n_tup, n_fl, n_ref, n_dic, l_fl, l_ref, e_tup, e_fl, e_ref, it_tup, it_fl, it_str, it_ref, k_app, k_ext, k_pop, k_split, k_part, k_join, m_app, m_ext, m_pop, m_split, m_part, m_join, k_cntT, k_cntS, k_sw, k_up, m_cntT, m_cntS, m_sw, m_up, i_rev, y_str, y_int, y_bl, y_non, y_tup, y_fl, y_ref, y_dic, t_bl, t_int, t_non, t_tup, t_fl, t_ref, g_nm, g_tp, setN0, setN1, wipe0, wipe1, stay0, stay1, at_0, at_1, at_2, at_3, at_4, at_5, at_last, ix_0, ix_1, ix_2, cut_init, new_at, new_at1, app_lt, put_at, put_ne, W_ok, W_nx, W_rt, W_bk, W_ct, W_bad, W_badS, List.getElem?_cons_zero, List.getElem?_cons_succ, List.set_cons_zero, List.set_cons_succ, if_true, if_false, Bool.false_eq_true, true_and, and_true, decide_eq_true_eq, decide_eq_false_iff_not, forall_const, not_true_eq_false, not_false_eq_true, false_implies, implies_true, Option.some.injEq, exists_eq_left', exists_eq_left, exists_and_left, fin_nx, fin_rt, fin_bk, fin_ct, fin_ex, Bool.not_eq_true', Bool.not_eq_false', Bool.true_eq_false, reduceCtorEq, D.bl.injEq, D.int.injEq, D.str.injEq, D.ref.injEq, D.tup.injEq, D.fl.injEq, Ob.lst.injEq, Ob.dic.injEq, List.length_map, List.length_append, List.length_cons, List.length_nil, Nat.reduceAdd, Nat.reduceLT, Nat.reduceLeDiff, Nat.zero_lt_succ, false_and, and_false, exists_false, ty_ne, eq_self, Int.cast_ofNat_Int, Int.reduceEq, Int.reduceLT, Int.reduceLE, decide_true, decide_false, ofString_inj, String.reduceEq, Option.map_some, Bool.not_true, Bool.not_false, true_implies]
      refine (draw_ok (n := n + m) p1 (by omega) (by omega) (by omega)).imp ?_
      rintro _ h2 ⟨⟨u, rfl, u0, u1⟩, p2, f2, _⟩
      obtain ⟨c, ec, _⟩ := atI_of (xs := (Str.ofString "/>*").cps.toList) u0 (by show u < 3; exact u1)
      simp only [ex_some, W_var, W_cst, W_bin, W_neg, W_cmp, W_chn, W_and, W_or, W_not, W_ite, W_tup, W_lst, W_dic, W_ix, W_sl, W_fn, W_bi, W_me, W_isi, W_lc, W_a0, W_a1, W_o0, W_o1, W_c0, W_c1, W_iof, W_ir1, W_ir2, W_truR, W_blR, T_and, T_or, T_not, T_var, T_cst, T_cmp, T_chn, T_fn, T_bi, T_isi, S_asg, S_unp, S_set, S_augA, S_augS, S_ex, S_ret, S_retN, S_ife, S_whl, S_fr, S_pas, S_brk, S_cnt, S_rse, b_add, b_sub, b_mul, b_div, b_mod, b_pow, b_str, b_tup, b_ref, c_eq, c_ne, c_in, c_ni, c_lt, c_le, c_gt, c_ge, c_ltS, c_is, c_isN, c_isB, q_int, q_str, q_bl, q_is, q_si, x_tup, x_fl, x_str, x_ref, x_dic, x_dicS, s_tup, s_str, s_fl, s_ref, i_len, i_int, i_intB, i_intS, i_abs, i_str, i_min, i_max, i_sum, i_all, i_any, i_list, i_tuple, n_tup, n_fl, n_ref, n_dic, l_fl, l_ref, e_tup, e_fl, e_ref, it_tup, it_fl, it_str, it_ref, k_app, k_ext, k_pop, k_split, k_part, k_join, m_app, m_ext, m_pop, m_split, m_part, m_join, k_cntT, k_cntS, k_sw, k_up, m_cntT, m_cntS, m_sw, m_up, i_rev, y_str, y_int, y_bl, y_non, y_tup, y_fl, y_ref, y_dic, t_bl, t_int, t_non, t_tup, t_fl, t_ref, g_nm, g_tp, setN0, setN1, wipe0, wipe1, stay0, stay1, at_0, at_1, at_2, at_3, at_4, at_5, at_last, ix_0, ix_1, ix_2, cut_init, new_at, new_at1, app_lt, put_at, put_ne, W_ok, W_nx, W_rt, W_bk, W_ct, W_bad, W_badS, List.getElem?_cons_zero, List.getElem?_cons_succ, List.set_cons_zero, List.set_cons_succ, if_true, if_false, Bool.false_eq_true, true_and, and_true, decide_eq_true_eq, decide_eq_false_iff_not, forall_const, not_true_eq_false, not_false_eq_true, false_implies, implies_true, Option.some.injEq, exists_eq_left', exists_eq_left, exists_and_left, fin_nx, fin_rt, fin_bk, fin_ct, fin_ex, Bool.not_eq_true', Bool.not_eq_false', Bool.true_eq_false, reduceCtorEq, D.bl.injEq, D.int.injEq, D.str.injEq, D.ref.injEq, D.tup.injEq, D.fl.injEq, Ob.lst.injEq, Ob.dic.injEq, List.length_map, List.length_append, List.length_cons, List.length_nil, Nat.reduceAdd, Nat.reduceLT, Nat.reduceLeDiff, Nat.zero_lt_succ, false_and, and_false, exists_false, ty_ne, eq_self, Int.cast_ofNat_Int, Int.reduceEq, Int.reduceLT, Int.reduceLE, decide_true, decide_false, ofString_inj, String.reduceEq, Option.map_some, Bool.not_true, Bool.not_false, true_implies]
      refine ⟨by decide, c, ec, ?_⟩
      have e2 := f2.at e1 nt'
      rw [W_cons]
      simp only [ex_some, W_var, W_cst, W_bin, W_neg, W_cmp, W_chn, W_and, W_or, W_not, W_ite, W_tup, W_lst, W_dic, W_ix, W_sl, W_fn, W_bi, W_me, W_isi, W_lc, W_a0, W_a1, W_o0, W_o1, W_c0, W_c1, W_iof, W_ir1, W_ir2, W_truR, W_blR, T_and, T_or, T_not, T_var, T_cst, T_cmp, T_chn, T_fn, T_bi, T_isi, S_asg, S_unp, S_set, S_augA, S_augS, S_ex, S_ret, S_retN, S_ife, S_whl, S_fr, S_pas, S_brk, S_cnt, S_rse, b_add, b_sub, b_mul, b_div, b_mod, b_pow, b_str, b_tup, b_ref, c_eq, c_ne, c_in, c_ni, c_lt, c_le, c_gt, c_ge, c_ltS, c_is, c_isN, c_isB, q_int, q_str, q_bl, q_is, q_si, x_tup, x_fl, x_str, x_ref, x_dic, x_dicS, s_tup, s_str, s_fl, s_ref, i_len, i_int, i_intB, i_intS, i_abs, i_str, i_min, i_max, i_sum, i_all, i_any, i_list, i_tuple, n_tup, n_fl, n_ref, n_dic, l_fl, l_ref, e_tup, e_fl, e_ref, it_tup, it_fl, it_str, it_ref, k_app, k_ext, k_pop, k_split, k_part, k_join, m_app, m_ext, m_pop, m_split, m_part, m_join, k_cntT, k_cntS, k_sw, k_up, m_cntT, m_cntS, m_sw, m_up, i_rev, y_str, y_int, y_bl, y_non, y_tup, y_fl, y_ref, y_dic, t_bl, t_int, t_non, t_tup, t_fl, t_ref, g_nm, g_tp, setN0, setN1, wipe0, wipe1, stay0, stay1, at_0, at_1, at_2, at_3, at_4, at_5, at_last, ix_0, ix_1, ix_2, cut_init, new_at, new_at1, app_lt, put_at, put_ne, W_ok, W_nx, W_rt, W_bk, W_ct, W_bad, W_badS, List.getElem?_cons_zero, List.getElem?_cons_succ, List.set_cons_zero, List.set_cons_succ, if_true, if_false, Bool.false_eq_true, true_and, and_true, decide_eq_true_eq, decide_eq_false_iff_not, forall_const, not_true_eq_false, not_false_eq_true, false_implies, implies_true, Option.some.injEq, exists_eq_left', exists_eq_left, exists_and_left, fin_nx, fin_rt, fin_bk, fin_ct, fin_ex, Bool.not_eq_true', Bool.not_eq_false', Bool.true_eq_false, reduceCtorEq, D.bl.injEq, D.int.injEq, D.str.injEq, D.ref.injEq, D.tup.injEq, D.fl.injEq, Ob.lst.injEq, Ob.dic.injEq, List.length_map, List.length_append, List.length_cons, List.length_nil, Nat.reduceAdd, Nat.reduceLT, Nat.reduceLeDiff, Nat.zero_lt_succ, false_and, and_false, exists_false, ty_ne, eq_self, Int.cast_ofNat_Int, Int.reduceEq, Int.reduceLT, Int.reduceLE, decide_true, decide_false, ofString_inj, String.reduceEq, Option.map_some, Bool.not_true, Bool.not_false, true_implies, e2]
      rw [cut_to' (k := k) rfl]
      have l3 : (h2 ++ [Ob.lst ((ts.map D.str).take k)])[h2.length]? = some (.lst ((ts.take k).map D.str)) := by rw [new_at, List.map_take]
      have p3 : Pool (h2 ++ [Ob.lst ((ts.map D.str).take k)]) p (M + 1) := p2.fr (ps := []) Fr.new List.not_mem_nil
      have i1 := ih k k2 (n + m - k - 1) (M + 1) (ts.take k) h2.length w _ (by simp; omega) k1 (by omega) p3 l3 (fun z => by have := p2.lt; omega) (by omega)
      rw [show n + m - k - 1 + k + 3 = n + m + 2 by omega] at i1
      refine i1.imp ?_
      rintro a h4 ⟨ka, p4, f4⟩
      have e4 := f4.at ((Fr.new (ps := [])).at e2 List.not_mem_nil) nt'
      rw [W_cons]
      simp only [ex_some, W_var, W_cst, W_bin, W_neg, W_cmp, W_chn, W_and, W_or, W_not, W_ite, W_tup, W_lst, W_dic, W_ix, W_sl, W_fn, W_bi, W_me, W_isi, W_lc, W_a0, W_a1, W_o0, W_o1, W_c0, W_c1, W_iof, W_ir1, W_ir2, W_truR, W_blR, T_and, T_or, T_not, T_var, T_cst, T_cmp, T_chn, T_fn, T_bi, T_isi, S_asg, S_unp, S_set, S_augA, S_augS, S_ex, S_ret, S_retN, S_ife, S_whl, S_fr, S_pas, S_brk, S_cnt, S_rse, b_add, b_sub, b_mul, b_div, b_mod, b_pow, b_str, b_tup, b_ref, c_eq, c_ne, c_in, c_ni, c_lt, c_le, c_gt, c_ge, c_ltS, c_is, c_isN, c_isB, q_int, q_str, q_bl, q_is, q_si, x_tup, x_fl, x_str, x_ref, x_dic, x_dicS, s_tup, s_str, s_fl, s_ref, i_len, i_int, i_intB, i_intS, i_abs, i_str, i_min, i_max, i_sum, i_all, i_any, i_list, i_tuple, n_tup, n_fl, n_ref, n_dic, l_fl, l_ref, e_tup, e_fl, e_ref, it_tup, it_fl, it_str, it_ref, k_app, k_ext, k_pop, k_split, k_part, k_join, m_app, m_ext, m_pop, m_split, m_part, m_join, k_cntT, k_cntS, k_sw, k_up, m_cntT, m_cntS, m_sw, m_up, i_rev, y_str, y_int, y_bl, y_non, y_tup, y_fl, y_ref, y_dic, t_bl, t_int, t_non, t_tup, t_fl, t_ref, g_nm, g_tp, setN0, setN1, wipe0, wipe1, stay0, stay1, at_0, at_1, at_2, at_3, at_4, at_5, at_last, ix_0, ix_1, ix_2, cut_init, new_at, new_at1, app_lt, put_at, put_ne, W_ok, W_nx, W_rt, W_bk, W_ct, W_bad, W_badS, List.getElem?_cons_zero, List.getElem?_cons_succ, List.set_cons_zero, List.set_cons_succ, if_true, if_false, Bool.false_eq_true, true_and, and_true, decide_eq_true_eq, decide_eq_false_iff_not, forall_const, not_true_eq_false, not_false_eq_true, false_implies, implies_true, Option.some.injEq, exists_eq_left', exists_eq_left, exists_and_left, fin_nx, fin_rt, fin_bk, fin_ct, fin_ex, Bool.not_eq_true', Bool.not_eq_false', Bool.true_eq_false, reduceCtorEq, D.bl.injEq, D.int.injEq, D.str.injEq, D.ref.injEq, D.tup.injEq, D.fl.injEq, Ob.lst.injEq, Ob.dic.injEq, List.length_map, List.length_append, List.length_cons, List.length_nil, Nat.reduceAdd, Nat.reduceLT, Nat.reduceLeDiff, Nat.zero_lt_succ, false_and, and_false, exists_false, ty_ne, eq_self, Int.cast_ofNat_Int, Int.reduceEq, Int.reduceLT, Int.reduceLE, decide_true, decide_false, ofString_inj, String.reduceEq, Option.map_some, Bool.not_true, Bool.not_false, true_implies, e4]
      rw [cut_from' (k := k) rfl]
      have l5 : (h4 ++ [Ob.lst ((ts.map D.str).drop k)])[h4.length]? = some (.lst ((ts.drop k).map D.str)) := by rw [new_at, List.map_drop]
      have p5 : Pool (h4 ++ [Ob.lst ((ts.map D.str).drop k)]) p (M + 1 + (2 * k - 2)) := p4.fr (ps := []) Fr.new List.not_mem_nil
      have i2 := ih (m - k) (by omega) (n + k - 1) _ (ts.drop k) h4.length w _ (by simp; omega) (by omega) (by omega) p5 l5 (fun z => by have := p4.lt; omega) (by omega)
      rw [show n + k - 1 + (m - k) + 3 = n + m + 2 by omega] at i2
      refine i2.imp ?_
      rintro b h6 ⟨kb, p6, f6⟩
      refine ⟨by decide, ?_, p6.mono (by omega), ((f1.trans f2).trans (Fr.new.trans f4)).trans (Fr.new.trans f6)⟩
      have := KB.node (sg := ⟨#[c]⟩) ka kb
      rw [List.take_append_drop] at this
      exact this
    simp only [c__law_bracket, c__law_bracket_1, c__law_bracket_2, c__law_bracket_3, startD, List.map_cons, List.map_nil, List.length_cons, List.length_nil, List.replicate, List.cons_append, List.nil_append, Nat.reduceSub, Nat.reduceAdd]
    rw [W_cons]
    simp only [ex_some, W_var, W_cst, W_bin, W_neg, W_cmp, W_chn, W_and, W_or, W_not, W_ite, W_tup, W_lst, W_dic, W_ix, W_sl, W_fn, W_bi, W_me, W_isi, W_lc, W_a0, W_a1, W_o0, W_o1, W_c0, W_c1, W_iof, W_ir1, W_ir2, W_truR, W_blR, T_and, T_or, T_not, T_var, T_cst, T_cmp, T_chn, T_fn, T_bi, T_isi, S_asg, S_unp, S_set, S_augA, S_augS, S_ex, S_ret, S_retN, S_ife, S_whl, S_fr, S_pas, S_brk, S_cnt, S_rse, b_add, b_sub, b_mul, b_div, b_mod, b_pow, b_str, b_tup, b_ref, c_eq, c_ne, c_in, c_ni, c_lt, c_le, c_gt, c_ge, c_ltS, c_is, c_isN, c_isB, q_int, q_str, q_bl, q_is, q_si, x_tup, x_fl, x_str, x_ref, x_dic, x_dicS, s_tup, s_str, s_fl, s_ref, i_len, i_int, i_intB, i_intS, i_abs, i_str, i_min, i_max, i_sum, i_all, i_any, i_list, i_tuple, n_tup, n_fl, n_ref, n_dic, l_fl, l_ref, e_tup, e_fl, e_ref, it_tup, it_fl, it_str, it_ref, k_app, k_ext, k_pop, k_split, k_part, k_join, m_app, m_ext, m_pop, m_split, m_part, m_join, k_cntT, k_cntS, k_sw, k_up, m_cntT, m_cntS, m_sw, m_up, i_rev, y_str, y_int, y_bl, y_non, y_tup, y_fl, y_ref, y_dic, t_bl, t_int, t_non, t_tup, t_fl, t_ref, g_nm, g_tp, setN0, setN1, wipe0, wipe1, stay0, stay1, at_0, at_1, at_2, at_3, at_4, at_5, at_last, ix_0, ix_1, ix_2, cut_init, new_at, new_at1, app_lt, put_at, put_ne, W_ok, W_nx, W_rt, W_bk, W_ct, W_bad, W_badS, List.getElem?_cons_zero, List.getElem?_cons_succ, List.set_cons_zero, List.set_cons_succ, if_true, if_false, Bool.false_eq_true, true_and, and_true, decide_eq_true_eq, decide_eq_false_iff_not, forall_const, not_true_eq_false, not_false_eq_true, false_implies, implies_true, Option.some.injEq, exists_eq_left', exists_eq_left, exists_and_left, fin_nx, fin_rt, fin_bk, fin_ct, fin_ex, Bool.not_eq_true', Bool.not_eq_false', Bool.true_eq_false, reduceCtorEq, D.bl.injEq, D.int.injEq, D.str.injEq, D.ref.injEq, D.tup.injEq, D.fl.injEq, Ob.lst.injEq, Ob.dic.injEq, List.length_map, List.length_append, List.length_cons, List.length_nil, Nat.reduceAdd, Nat.reduceLT, Nat.reduceLeDiff, Nat.zero_lt_succ, false_and, and_false, exists_false, ty_ne, eq_self, Int.cast_ofNat_Int, Int.reduceEq, Int.reduceLT, Int.reduceLE, decide_true, decide_false, ofString_inj, String.reduceEq, Option.map_some, Bool.not_true, Bool.not_false, true_implies, et, hm]
    refine ⟨fun e1 => ?_, fun e1 => ?_⟩
    · obtain rfl : m = 1 := by omega
      obtain ⟨s, rfl⟩ : ∃ s, ts = [s] := by
        match ts, hm with
        | [s], _ => exact ⟨s, rfl⟩
      simp only [ex_some, W_var, W_cst, W_bin, W_neg, W_cmp, W_chn, W_and, W_or, W_not, W_ite, W_tup, W_lst, W_dic, W_ix, W_sl, W_fn, W_bi, W_me, W_isi, W_lc, W_a0, W_a1, W_o0, W_o1, W_c0, W_c1, W_iof, W_ir1, W_ir2, W_truR, W_blR, T_and, T_or, T_not, T_var, T_cst, T_cmp, T_chn, T_fn, T_bi, T_isi, S_asg, S_unp, S_set, S_augA, S_augS, S_ex, S_ret, S_retN, S_ife, S_whl, S_fr, S_pas, S_brk, S_cnt, S_rse, b_add, b_sub, b_mul, b_div, b_mod, b_pow, b_str, b_tup, b_ref, c_eq, c_ne, c_in, c_ni, c_lt, c_le, c_gt, c_ge, c_ltS, c_is, c_isN, c_isB, q_int, q_str, q_bl, q_is, q_si, x_tup, x_fl, x_str, x_ref, x_dic, x_dicS, s_tup, s_str, s_fl, s_ref, i_len, i_int, i_intB, i_intS, i_abs, i_str, i_min, i_max, i_sum, i_all, i_any, i_list, i_tuple, n_tup, n_fl, n_ref, n_dic, l_fl, l_ref, e_tup, e_fl, e_ref, it_tup, it_fl, it_str, it_ref, k_app, k_ext, k_pop, k_split, k_part, k_join, m_app, m_ext, m_pop, m_split, m_part, m_join, k_cntT, k_cntS, k_sw, k_up, m_cntT, m_cntS, m_sw, m_up, i_rev, y_str, y_int, y_bl, y_non, y_tup, y_fl, y_ref, y_dic, t_bl, t_int, t_non, t_tup, t_fl, t_ref, g_nm, g_tp, setN0, setN1, wipe0, wipe1, stay0, stay1, at_0, at_1, at_2, at_3, at_4, at_5, at_last, ix_0, ix_1, ix_2, cut_init, new_at, new_at1, app_lt, put_at, put_ne, W_ok, W_nx, W_rt, W_bk, W_ct, W_bad, W_badS, List.getElem?_cons_zero, List.getElem?_cons_succ, List.set_cons_zero, List.set_cons_succ, if_true, if_false, Bool.false_eq_true, true_and, and_true, decide_eq_true_eq, decide_eq_false_iff_not, forall_const, not_true_eq_false, not_false_eq_true, false_implies, implies_true, Option.some.injEq, exists_eq_left', exists_eq_left, exists_and_left, fin_nx, fin_rt, fin_bk, fin_ct, fin_ex, Bool.not_eq_true', Bool.not_eq_false', Bool.true_eq_false, reduceCtorEq, D.bl.injEq, D.int.injEq, D.str.injEq, D.ref.injEq, D.tup.injEq, D.fl.injEq, Ob.lst.injEq, Ob.dic.injEq, List.length_map, List.length_append, List.length_cons, List.length_nil, Nat.reduceAdd, Nat.reduceLT, Nat.reduceLeDiff, Nat.zero_lt_succ, false_and, and_false, exists_false, ty_ne, eq_self, Int.cast_ofNat_Int, Int.reduceEq, Int.reduceLT, Int.reduceLE, decide_true, decide_false, ofString_inj, String.reduceEq, Option.map_some, Bool.not_true, Bool.not_false, true_implies, W_cons, W_nil, et, List.map_cons, List.map_nil]
      exact ⟨KB.leaf, hp.mono (by omega), Fr.refl⟩
    · rw [W_nil]
      dsimp only
      rw [W_cons]
      simp only [ex_some, W_var, W_cst, W_bin, W_neg, W_cmp, W_chn, W_and, W_or, W_not, W_ite, W_tup, W_lst, W_dic, W_ix, W_sl, W_fn, W_bi, W_me, W_isi, W_lc, W_a0, W_a1, W_o0, W_o1, W_c0, W_c1, W_iof, W_ir1, W_ir2, W_truR, W_blR, T_and, T_or, T_not, T_var, T_cst, T_cmp, T_chn, T_fn, T_bi, T_isi, S_asg, S_unp, S_set, S_augA, S_augS, S_ex, S_ret, S_retN, S_ife, S_whl, S_fr, S_pas, S_brk, S_cnt, S_rse, b_add, b_sub, b_mul, b_div, b_mod, b_pow, b_str, b_tup, b_ref, c_eq, c_ne, c_in, c_ni, c_lt, c_le, c_gt, c_ge, c_ltS, c_is, c_isN, c_isB, q_int, q_str, q_bl, q_is, q_si, x_tup, x_fl, x_str, x_ref, x_dic, x_dicS, s_tup, s_str, s_fl, s_ref, i_len, i_int, i_intB, i_intS, i_abs, i_str, i_min, i_max, i_sum, i_all, i_any, i_list, i_tuple, n_tup, n_fl, n_ref, n_dic, l_fl, l_ref, e_tup, e_fl, e_ref, it_tup, it_fl, it_str, it_ref, k_app, k_ext, k_pop, k_split, k_part, k_join, m_app, m_ext, m_pop, m_split, m_part, m_join, k_cntT, k_cntS, k_sw, k_up, m_cntT, m_cntS, m_sw, m_up, i_rev, y_str, y_int, y_bl, y_non, y_tup, y_fl, y_ref, y_dic, t_bl, t_int, t_non, t_tup, t_fl, t_ref, g_nm, g_tp, setN0, setN1, wipe0, wipe1, stay0, stay1, at_0, at_1, at_2, at_3, at_4, at_5, at_last, ix_0, ix_1, ix_2, cut_init, new_at, new_at1, app_lt, put_at, put_ne, W_ok, W_nx, W_rt, W_bk, W_ct, W_bad, W_badS, List.getElem?_cons_zero, List.getElem?_cons_succ, List.set_cons_zero, List.set_cons_succ, if_true, if_false, Bool.false_eq_true, true_and, and_true, decide_eq_true_eq, decide_eq_false_iff_not, forall_const, not_true_eq_false, not_false_eq_true, false_implies, implies_true, Option.some.injEq, exists_eq_left', exists_eq_left, exists_and_left, fin_nx, fin_rt, fin_bk, fin_ct, fin_ex, Bool.not_eq_true', Bool.not_eq_false', Bool.true_eq_false, reduceCtorEq, D.bl.injEq, D.int.injEq, D.str.injEq, D.ref.injEq, D.tup.injEq, D.fl.injEq, Ob.lst.injEq, Ob.dic.injEq, List.length_map, List.length_append, List.length_cons, List.length_nil, Nat.reduceAdd, Nat.reduceLT, Nat.reduceLeDiff, Nat.zero_lt_succ, false_and, and_false, exists_false, ty_ne, eq_self, Int.cast_ofNat_Int, Int.reduceEq, Int.reduceLT, Int.reduceLE, decide_true, decide_false, ofString_inj, String.reduceEq, Option.map_some, Bool.not_true, Bool.not_false, true_implies, et, hm]
      refine (draw_ok (n := n + m) hp (by omega) (by omega) (by omega)).imp ?_
      rintro _ h1 ⟨⟨v, rfl, v0, v1⟩, p1, f1, _⟩
      have e1' := f1.at et nt'
      obtain ⟨k, hk⟩ : ∃ k : Nat, 1 + v = k := ⟨(1 + v).toNat, by omega⟩
      simp only [ex_some, W_var, W_cst, W_bin, W_neg, W_cmp, W_chn, W_and, W_or, W_not, W_ite, W_tup, W_lst, W_dic, W_ix, W_sl, W_fn, W_bi, W_me, W_isi, W_lc, W_a0, W_a1, W_o0, W_o1, W_c0, W_c1, W_iof, W_ir1, W_ir2, W_truR, W_blR, T_and, T_or, T_not, T_var, T_cst, T_cmp, T_chn, T_fn, T_bi, T_isi, S_asg, S_unp, S_set, S_augA, S_augS, S_ex, S_ret, S_retN, S_ife, S_whl, S_fr, S_pas, S_brk, S_cnt, S_rse, b_add, b_sub, b_mul, b_div, b_mod, b_pow, b_str, b_tup, b_ref, c_eq, c_ne, c_in, c_ni, c_lt, c_le, c_gt, c_ge, c_ltS, c_is, c_isN, c_isB, q_int, q_str, q_bl, q_is, q_si, x_tup, x_fl, x_str, x_ref, x_dic, x_dicS, s_tup, s_str, s_fl, s_ref, i_len, i_int, i_intB, i_intS, i_abs, i_str, i_min, i_max, i_sum, i_all, i_any, i_list, i_tuple, n_tup, n_fl, n_ref, n_dic, l_fl, l_ref, e_tup, e_fl, e_ref, it_tup, it_fl, it_str, it_ref, k_app, k_ext, k_pop, k_split, k_part, k_join, m_app, m_ext, m_pop, m_split, m_part, m_join, k_cntT, k_cntS, k_sw, k_up, m_cntT, m_cntS, m_sw, m_up, i_rev, y_str, y_int, y_bl, y_non, y_tup, y_fl, y_ref, y_dic, t_bl, t_int, t_non, t_tup, t_fl, t_ref, g_nm, g_tp, setN0, setN1, wipe0, wipe1, stay0, stay1, at_0, at_1, at_2, at_3, at_4, at_5, at_last, ix_0, ix_1, ix_2, cut_init, new_at, new_at1, app_lt, put_at, put_ne, W_ok, W_nx, W_rt, W_bk, W_ct, W_bad, W_badS, List.getElem?_cons_zero, List.getElem?_cons_succ, List.set_cons_zero, List.set_cons_succ, if_true, if_false, Bool.false_eq_true, true_and, and_true, decide_eq_true_eq, decide_eq_false_iff_not, forall_const, not_true_eq_false, not_false_eq_true, false_implies, implies_true, Option.some.injEq, exists_eq_left', exists_eq_left, exists_and_left, fin_nx, fin_rt, fin_bk, fin_ct, fin_ex, Bool.not_eq_true', Bool.not_eq_false', Bool.true_eq_false, reduceCtorEq, D.bl.injEq, D.int.injEq, D.str.injEq, D.ref.injEq, D.tup.injEq, D.fl.injEq, Ob.lst.injEq, Ob.dic.injEq, List.length_map, List.length_append, List.length_cons, List.length_nil, Nat.reduceAdd, Nat.reduceLT, Nat.reduceLeDiff, Nat.zero_lt_succ, false_and, and_false, exists_false, ty_ne, eq_self, Int.cast_ofNat_Int, Int.reduceEq, Int.reduceLT, Int.reduceLE, decide_true, decide_false, ofString_inj, String.reduceEq, Option.map_some, Bool.not_true, Bool.not_false, true_implies]
      rw [hk]
      rw [W_cons]
      have two : ∀ (k : Nat), 1 ≤ k → k < m → (evB (callN P wf (n + m + 2)) wf (.cons (.ife (.cmp .Eq (.var 2) (.cst (.int 2))) (.cons (.asg 3 (.bin .Sub (.bi .len (.cons (.var 1) .nil)) (.cst (.int 1)))) .nil) .nil) c__law_bracket_4) [some (.ref p), some (.ref t), some (.int w), some (.int k), none, none] h1).W (fin E fun d h' => KB ts d ∧ Pool h' p (N + (2 * m - 2)) ∧ Eg.Fr [p] h h') := by
        intro k k1 k2
        rw [W_cons]
        simp only [ex_some, W_var, W_cst, W_bin, W_neg, W_cmp, W_chn, W_and, W_or, W_not, W_ite, W_tup, W_lst, W_dic, W_ix, W_sl, W_fn, W_bi, W_me, W_isi, W_lc, W_a0, W_a1, W_o0, W_o1, W_c0, W_c1, W_iof, W_ir1, W_ir2, W_truR, W_blR, T_and, T_or, T_not, T_var, T_cst, T_cmp, T_chn, T_fn, T_bi, T_isi, S_asg, S_unp, S_set, S_augA, S_augS, S_ex, S_ret, S_retN, S_ife, S_whl, S_fr, S_pas, S_brk, S_cnt, S_rse, b_add, b_sub, b_mul, b_div, b_mod, b_pow, b_str, b_tup, b_ref, c_eq, c_ne, c_in, c_ni, c_lt, c_le, c_gt, c_ge, c_ltS, c_is, c_isN, c_isB, q_int, q_str, q_bl, q_is, q_si, x_tup, x_fl, x_str, x_ref, x_dic, x_dicS, s_tup, s_str, s_fl, s_ref, i_len, i_int, i_intB, i_intS, i_abs, i_str, i_min, i_max, i_sum, i_all, i_any, i_list, i_tuple, n_tup, n_fl, n_ref, n_dic, l_fl, l_ref, e_tup, e_fl, e_ref, it_tup, it_fl, it_str, it_ref, k_app, k_ext, k_pop, k_split, k_part, k_join, m_app, m_ext, m_pop, m_split, m_part, m_join, k_cntT, k_cntS, k_sw, k_up, m_cntT, m_cntS, m_sw, m_up, i_rev, y_str, y_int, y_bl, y_non, y_tup, y_fl, y_ref, y_dic, t_bl, t_int, t_non, t_tup, t_fl, t_ref, g_nm, g_tp, setN0, setN1, wipe0, wipe1, stay0, stay1, at_0, at_1, at_2, at_3, at_4, at_5, at_last, ix_0, ix_1, ix_2, cut_init, new_at, new_at1, app_lt, put_at, put_ne, W_ok, W_nx, W_rt, W_bk, W_ct, W_bad, W_badS, List.getElem?_cons_zero, List.getElem?_cons_succ, List.set_cons_zero, List.set_cons_succ, if_true, if_false, Bool.false_eq_true, true_and, and_true, decide_eq_true_eq, decide_eq_false_iff_not, forall_const, not_true_eq_false, not_false_eq_true, false_implies, implies_true, Option.some.injEq, exists_eq_left', exists_eq_left, exists_and_left, fin_nx, fin_rt, fin_bk, fin_ct, fin_ex, Bool.not_eq_true', Bool.not_eq_false', Bool.true_eq_false, reduceCtorEq, D.bl.injEq, D.int.injEq, D.str.injEq, D.ref.injEq, D.tup.injEq, D.fl.injEq, Ob.lst.injEq, Ob.dic.injEq, List.length_map, List.length_append, List.length_cons, List.length_nil, Nat.reduceAdd, Nat.reduceLT, Nat.reduceLeDiff, Nat.zero_lt_succ, false_and, and_false, exists_false, ty_ne, eq_self, Int.cast_ofNat_Int, Int.reduceEq, Int.reduceLT, Int.reduceLE, decide_true, decide_false, ofString_inj, String.reduceEq, Option.map_some, Bool.not_true, Bool.not_false, true_implies, e1', hm, W_nil, W_cons]
        refine ⟨fun _ => ?_, fun _ => tail h1 (N + 1) k p1 (by omega) k1 k2 f1⟩
        rw [show (m : Int) - 1 = ((m - 1 : Nat) : Int) by omega]
        exact tail h1 (N + 1) (m - 1) p1 (by omega) (by omega) (by omega) f1
      simp only [ex_some, W_var, W_cst, W_bin, W_neg, W_cmp, W_chn, W_and, W_or, W_not, W_ite, W_tup, W_lst, W_dic, W_ix, W_sl, W_fn, W_bi, W_me, W_isi, W_lc, W_a0, W_a1, W_o0, W_o1, W_c0, W_c1, W_iof, W_ir1, W_ir2, W_truR, W_blR, T_and, T_or, T_not, T_var, T_cst, T_cmp, T_chn, T_fn, T_bi, T_isi, S_asg, S_unp, S_set, S_augA, S_augS, S_ex, S_ret, S_retN, S_ife, S_whl, S_fr, S_pas, S_brk, S_cnt, S_rse, b_add, b_sub, b_mul, b_div, b_mod, b_pow, b_str, b_tup, b_ref, c_eq, c_ne, c_in, c_ni, c_lt, c_le, c_gt, c_ge, c_ltS, c_is, c_isN, c_isB, q_int, q_str, q_bl, q_is, q_si, x_tup, x_fl, x_str, x_ref, x_dic, x_dicS, s_tup, s_str, s_fl, s_ref, i_len, i_int, i_intB, i_intS, i_abs, i_str, i_min, i_max, i_sum, i_all, i_any, i_list, i_tuple, n_tup, n_fl, n_ref, n_dic, l_fl, l_ref, e_tup, e_fl, e_ref, it_tup, it_fl, it_str, it_ref, k_app, k_ext, k_pop, k_split, k_part, k_join, m_app, m_ext, m_pop, m_split, m_part, m_join, k_cntT, k_cntS, k_sw, k_up, m_cntT, m_cntS, m_sw, m_up, i_rev, y_str, y_int, y_bl, y_non, y_tup, y_fl, y_ref, y_dic, t_bl, t_int, t_non, t_tup, t_fl, t_ref, g_nm, g_tp, setN0, setN1, wipe0, wipe1, stay0, stay1, at_0, at_1, at_2, at_3, at_4, at_5, at_last, ix_0, ix_1, ix_2, cut_init, new_at, new_at1, app_lt, put_at, put_ne, W_ok, W_nx, W_rt, W_bk, W_ct, W_bad, W_badS, List.getElem?_cons_zero, List.getElem?_cons_succ, List.set_cons_zero, List.set_cons_succ, if_true, if_false, Bool.false_eq_true, true_and, and_true, decide_eq_true_eq, decide_eq_false_iff_not, forall_const, not_true_eq_false, not_false_eq_true, false_implies, implies_true, Option.some.injEq, exists_eq_left', exists_eq_left, exists_and_left, fin_nx, fin_rt, fin_bk, fin_ct, fin_ex, Bool.not_eq_true', Bool.not_eq_false', Bool.true_eq_false, reduceCtorEq, D.bl.injEq, D.int.injEq, D.str.injEq, D.ref.injEq, D.tup.injEq, D.fl.injEq, Ob.lst.injEq, Ob.dic.injEq, List.length_map, List.length_append, List.length_cons, List.length_nil, Nat.reduceAdd, Nat.reduceLT, Nat.reduceLeDiff, Nat.zero_lt_succ, false_and, and_false, exists_false, ty_ne, eq_self, Int.cast_ofNat_Int, Int.reduceEq, Int.reduceLT, Int.reduceLE, decide_true, decide_false, ofString_inj, String.reduceEq, Option.map_some, Bool.not_true, Bool.not_false, true_implies]
      refine ⟨fun _ => ?_, fun _ => ?_⟩
      · rw [W_cons]
        simp only [ex_some, W_var, W_cst, W_bin, W_neg, W_cmp, W_chn, W_and, W_or, W_not, W_ite, W_tup, W_lst, W_dic, W_ix, W_sl, W_fn, W_bi, W_me, W_isi, W_lc, W_a0, W_a1, W_o0, W_o1, W_c0, W_c1, W_iof, W_ir1, W_ir2, W_truR, W_blR, T_and, T_or, T_not, T_var, T_cst, T_cmp, T_chn, T_fn, T_bi, T_isi, S_asg, S_unp, S_set, S_augA, S_augS, S_ex, S_ret, S_retN, S_ife, S_whl, S_fr, S_pas, S_brk, S_cnt, S_rse, b_add, b_sub, b_mul, b_div, b_mod, b_pow, b_str, b_tup, b_ref, c_eq, c_ne, c_in, c_ni, c_lt, c_le, c_gt, c_ge, c_ltS, c_is, c_isN, c_isB, q_int, q_str, q_bl, q_is, q_si, x_tup, x_fl, x_str, x_ref, x_dic, x_dicS, s_tup, s_str, s_fl, s_ref, i_len, i_int, i_intB, i_intS, i_abs, i_str, i_min, i_max, i_sum, i_all, i_any, i_list, i_tuple, n_tup, n_fl, n_ref, n_dic, l_fl, l_ref, e_tup, e_fl, e_ref, it_tup, it_fl, it_str, it_ref, k_app, k_ext, k_pop, k_split, k_part, k_join, m_app, m_ext, m_pop, m_split, m_part, m_join, k_cntT, k_cntS, k_sw, k_up, m_cntT, m_cntS, m_sw, m_up, i_rev, y_str, y_int, y_bl, y_non, y_tup, y_fl, y_ref, y_dic, t_bl, t_int, t_non, t_tup, t_fl, t_ref, g_nm, g_tp, setN0, setN1, wipe0, wipe1, stay0, stay1, at_0, at_1, at_2, at_3, at_4, at_5, at_last, ix_0, ix_1, ix_2, cut_init, new_at, new_at1, app_lt, put_at, put_ne, W_ok, W_nx, W_rt, W_bk, W_ct, W_bad, W_badS, List.getElem?_cons_zero, List.getElem?_cons_succ, List.set_cons_zero, List.set_cons_succ, if_true, if_false, Bool.false_eq_true, true_and, and_true, decide_eq_true_eq, decide_eq_false_iff_not, forall_const, not_true_eq_false, not_false_eq_true, false_implies, implies_true, Option.some.injEq, exists_eq_left', exists_eq_left, exists_and_left, fin_nx, fin_rt, fin_bk, fin_ct, fin_ex, Bool.not_eq_true', Bool.not_eq_false', Bool.true_eq_false, reduceCtorEq, D.bl.injEq, D.int.injEq, D.str.injEq, D.ref.injEq, D.tup.injEq, D.fl.injEq, Ob.lst.injEq, Ob.dic.injEq, List.length_map, List.length_append, List.length_cons, List.length_nil, Nat.reduceAdd, Nat.reduceLT, Nat.reduceLeDiff, Nat.zero_lt_succ, false_and, and_false, exists_false, ty_ne, eq_self, Int.cast_ofNat_Int, Int.reduceEq, Int.reduceLT, Int.reduceLE, decide_true, decide_false, ofString_inj, String.reduceEq, Option.map_some, Bool.not_true, Bool.not_false, true_implies, W_nil]
        exact two 1 (by omega) (by omega)
      · rw [W_nil]
        exact two k (by omega) (by omega)
end
section
variable {wf : Nat} {E : Nat → Hd → Prop} {h : Hd}
theorem atoms_ok {ts : List Str} {d : D} (k : KB ts d) : ∀ (n : Nat) (E : Nat → Hd → Prop), ts.length ≤ 40 → (callN P wf (n + ts.length) 2 [d] h).W E (fun r h' => h' = h ∧ r = .tup (ts.map D.str)) := by
  induction k with
  | leaf =>
    intro n E hl
    refine W_call P_atoms_of rfl ?_
    simp only [c_atoms_of, c_atoms_of_1, startD, List.map_cons, List.map_nil, List.length_cons, List.length_nil, List.replicate, List.cons_append, List.nil_append, Nat.reduceSub, Nat.reduceAdd]
    simp only [ex_some, W_var, W_cst, W_bin, W_neg, W_cmp, W_chn, W_and, W_or, W_not, W_ite, W_tup, W_lst, W_dic, W_ix, W_sl, W_fn, W_bi, W_me, W_isi, W_lc, W_a0, W_a1, W_o0, W_o1, W_c0, W_c1, W_iof, W_ir1, W_ir2, W_truR, W_blR, T_and, T_or, T_not, T_var, T_cst, T_cmp, T_chn, T_fn, T_bi, T_isi, S_asg, S_unp, S_set, S_augA, S_augS, S_ex, S_ret, S_retN, S_ife, S_whl, S_fr, S_pas, S_brk, S_cnt, S_rse, b_add, b_sub, b_mul, b_div, b_mod, b_pow, b_str, b_tup, b_ref, c_eq, c_ne, c_in, c_ni, c_lt, c_le, c_gt, c_ge, c_ltS, c_is, c_isN, c_isB, q_int, q_str, q_bl, q_is, q_si, x_tup, x_fl, x_str, x_ref, x_dic, x_dicS, s_tup, s_str, s_fl, s_ref, i_len, i_int, i_intB, i_intS, i_abs, i_str, i_min, i_max, i_sum, i_all, i_any, i_list, i_tuple, n_tup, n_fl, n_ref, n_dic, l_fl, l_ref, e_tup, e_fl, e_ref, it_tup, it_fl, it_str, it_ref, k_app, k_ext, k_pop, k_split, k_part, k_join, m_app, m_ext, m_pop, m_split, m_part, m_join, k_cntT, k_cntS, k_sw, k_up, m_cntT, m_cntS, m_sw, m_up, i_rev, y_str, y_int, y_bl, y_non, y_tup, y_fl, y_ref, y_dic, t_bl, t_int, t_non, t_tup, t_fl, t_ref, g_nm, g_tp, setN0, setN1, wipe0, wipe1, stay0, stay1, at_0, at_1, at_2, at_3, at_4, at_5, at_last, ix_0, ix_1, ix_2, cut_init, new_at, new_at1, app_lt, put_at, put_ne, W_ok, W_nx, W_rt, W_bk, W_ct, W_bad, W_badS, List.getElem?_cons_zero, List.getElem?_cons_succ, List.set_cons_zero, List.set_cons_succ, if_true, if_false, Bool.false_eq_true, true_and, and_true, decide_eq_true_eq, decide_eq_false_iff_not, forall_const, not_true_eq_false, not_false_eq_true, false_implies, implies_true, Option.some.injEq, exists_eq_left', exists_eq_left, exists_and_left, fin_nx, fin_rt, fin_bk, fin_ct, fin_ex, Bool.not_eq_true', Bool.not_eq_false', Bool.true_eq_false, reduceCtorEq, D.bl.injEq, D.int.injEq, D.str.injEq, D.ref.injEq, D.tup.injEq, D.fl.injEq, Ob.lst.injEq, Ob.dic.injEq, List.length_map, List.length_append, List.length_cons, List.length_nil, Nat.reduceAdd, Nat.reduceLT, Nat.reduceLeDiff, Nat.zero_lt_succ, false_and, and_false, exists_false, ty_ne, eq_self, Int.cast_ofNat_Int, Int.reduceEq, Int.reduceLT, Int.reduceLE, decide_true, decide_false, ofString_inj, String.reduceEq, Option.map_some, Bool.not_true, Bool.not_false, true_implies, W_cons, W_nil]
    exact by decide
  | @node sg xs ys a b ha hb iha ihb =>
    intro n E hl
    have h1 := ha.pos
    have h2 := hb.pos
    rw [List.length_append] at hl ⊢
    obtain ⟨j, ej⟩ : ∃ j, n + (xs.length + ys.length) = j + 1 := ⟨n + (xs.length + ys.length) - 1, by omega⟩
    rw [ej]
    refine W_call P_atoms_of rfl ?_
    simp only [c_atoms_of, c_atoms_of_1, startD, List.map_cons, List.map_nil, List.length_cons, List.length_nil, List.replicate, List.cons_append, List.nil_append, Nat.reduceSub, Nat.reduceAdd]
    simp only [ex_some, W_var, W_cst, W_bin, W_neg, W_cmp, W_chn, W_and, W_or, W_not, W_ite, W_tup, W_lst, W_dic, W_ix, W_sl, W_fn, W_bi, W_me, W_isi, W_lc, W_a0, W_a1, W_o0, W_o1, W_c0, W_c1, W_iof, W_ir1, W_ir2, W_truR, W_blR, T_and, T_or, T_not, T_var, T_cst, T_cmp, T_chn, T_fn, T_bi, T_isi, S_asg, S_unp, S_set, S_augA, S_augS, S_ex, S_ret, S_retN, S_ife, S_whl, S_fr, S_pas, S_brk, S_cnt, S_rse, b_add, b_sub, b_mul, b_div, b_mod, b_pow, b_str, b_tup, b_ref, c_eq, c_ne, c_in, c_ni, c_lt, c_le, c_gt, c_ge, c_ltS, c_is, c_isN, c_isB, q_int, q_str, q_bl, q_is, q_si, x_tup, x_fl, x_str, x_ref, x_dic, x_dicS, s_tup, s_str, s_fl, s_ref, i_len, i_int, i_intB, i_intS, i_abs, i_str, i_min, i_max, i_sum, i_all, i_any, i_list, i_tuple, n_tup, n_fl, n_ref, n_dic, l_fl, l_ref, e_tup, e_fl, e_ref, it_tup, it_fl, it_str, it_ref, k_app, k_ext, k_pop, k_split, k_part, k_join, m_app, m_ext, m_pop, m_split, m_part, m_join, k_cntT, k_cntS, k_sw, k_up, m_cntT, m_cntS, m_sw, m_up, i_rev, y_str, y_int, y_bl, y_non, y_tup, y_fl, y_ref, y_dic, t_bl, t_int, t_non, t_tup, t_fl, t_ref, g_nm, g_tp, setN0, setN1, wipe0, wipe1, stay0, stay1, at_0, at_1, at_2, at_3, at_4, at_5, at_last, ix_0, ix_1, ix_2, cut_init, new_at, new_at1, app_lt, put_at, put_ne, W_ok, W_nx, W_rt, W_bk, W_ct, W_bad, W_badS, List.getElem?_cons_zero, List.getElem?_cons_succ, List.set_cons_zero, List.set_cons_succ, if_true, if_false, Bool.false_eq_true, true_and, and_true, decide_eq_true_eq, decide_eq_false_iff_not, forall_const, not_true_eq_false, not_false_eq_true, false_implies, implies_true, Option.some.injEq, exists_eq_left', exists_eq_left, exists_and_left, fin_nx, fin_rt, fin_bk, fin_ct, fin_ex, Bool.not_eq_true', Bool.not_eq_false', Bool.true_eq_false, reduceCtorEq, D.bl.injEq, D.int.injEq, D.str.injEq, D.ref.injEq, D.tup.injEq, D.fl.injEq, Ob.lst.injEq, Ob.dic.injEq, List.length_map, List.length_append, List.length_cons, List.length_nil, Nat.reduceAdd, Nat.reduceLT, Nat.reduceLeDiff, Nat.zero_lt_succ, false_and, and_false, exists_false, ty_ne, eq_self, Int.cast_ofNat_Int, Int.reduceEq, Int.reduceLT, Int.reduceLE, decide_true, decide_false, ofString_inj, String.reduceEq, Option.map_some, Bool.not_true, Bool.not_false, true_implies, W_cons, W_nil]
    have q1 := iha (j - xs.length) (fun e h => E e h) (by omega)
    rw [show j - xs.length + xs.length = j by omega] at q1
    refine q1.imp ?_
    rintro _ _ ⟨rfl, rfl⟩
    have q2 := ihb (j - ys.length) (fun e h => E e h) (by omega)
    rw [show j - ys.length + ys.length = j by omega] at q2
    refine q2.imp ?_
    rintro _ _ ⟨rfl, rfl⟩
    simp only [ex_some, W_var, W_cst, W_bin, W_neg, W_cmp, W_chn, W_and, W_or, W_not, W_ite, W_tup, W_lst, W_dic, W_ix, W_sl, W_fn, W_bi, W_me, W_isi, W_lc, W_a0, W_a1, W_o0, W_o1, W_c0, W_c1, W_iof, W_ir1, W_ir2, W_truR, W_blR, T_and, T_or, T_not, T_var, T_cst, T_cmp, T_chn, T_fn, T_bi, T_isi, S_asg, S_unp, S_set, S_augA, S_augS, S_ex, S_ret, S_retN, S_ife, S_whl, S_fr, S_pas, S_brk, S_cnt, S_rse, b_add, b_sub, b_mul, b_div, b_mod, b_pow, b_str, b_tup, b_ref, c_eq, c_ne, c_in, c_ni, c_lt, c_le, c_gt, c_ge, c_ltS, c_is, c_isN, c_isB, q_int, q_str, q_bl, q_is, q_si, x_tup, x_fl, x_str, x_ref, x_dic, x_dicS, s_tup, s_str, s_fl, s_ref, i_len, i_int, i_intB, i_intS, i_abs, i_str, i_min, i_max, i_sum, i_all, i_any, i_list, i_tuple, n_tup, n_fl, n_ref, n_dic, l_fl, l_ref, e_tup, e_fl, e_ref, it_tup, it_fl, it_str, it_ref, k_app, k_ext, k_pop, k_split, k_part, k_join, m_app, m_ext, m_pop, m_split, m_part, m_join, k_cntT, k_cntS, k_sw, k_up, m_cntT, m_cntS, m_sw, m_up, i_rev, y_str, y_int, y_bl, y_non, y_tup, y_fl, y_ref, y_dic, t_bl, t_int, t_non, t_tup, t_fl, t_ref, g_nm, g_tp, setN0, setN1, wipe0, wipe1, stay0, stay1, at_0, at_1, at_2, at_3, at_4, at_5, at_last, ix_0, ix_1, ix_2, cut_init, new_at, new_at1, app_lt, put_at, put_ne, W_ok, W_nx, W_rt, W_bk, W_ct, W_bad, W_badS, List.getElem?_cons_zero, List.getElem?_cons_succ, List.set_cons_zero, List.set_cons_succ, if_true, if_false, Bool.false_eq_true, true_and, and_true, decide_eq_true_eq, decide_eq_false_iff_not, forall_const, not_true_eq_false, not_false_eq_true, false_implies, implies_true, Option.some.injEq, exists_eq_left', exists_eq_left, exists_and_left, fin_nx, fin_rt, fin_bk, fin_ct, fin_ex, Bool.not_eq_true', Bool.not_eq_false', Bool.true_eq_false, reduceCtorEq, D.bl.injEq, D.int.injEq, D.str.injEq, D.ref.injEq, D.tup.injEq, D.fl.injEq, Ob.lst.injEq, Ob.dic.injEq, List.length_map, List.length_append, List.length_cons, List.length_nil, Nat.reduceAdd, Nat.reduceLT, Nat.reduceLeDiff, Nat.zero_lt_succ, false_and, and_false, exists_false, ty_ne, eq_self, Int.cast_ofNat_Int, Int.reduceEq, Int.reduceLT, Int.reduceLE, decide_true, decide_false, ofString_inj, String.reduceEq, Option.map_some, Bool.not_true, Bool.not_false, true_implies]
    exact ⟨Nat.le_trans hl (by decide), by rw [List.map_append]⟩
theorem size_ok {ts : List Str} {d : D} (k : KB ts d) : ∀ (n : Nat) (E : Nat → Hd → Prop), (callN P wf (n + ts.length) 0 [d] h).W E (fun r h' => h' = h ∧ r = .int ts.length) := by
  induction k with
  | leaf =>
    intro n E
    refine W_call P_size_of rfl ?_
    simp only [c_size_of, c_size_of_1, startD, List.map_cons, List.map_nil, List.length_cons, List.length_nil, List.replicate, List.cons_append, List.nil_append, Nat.reduceSub, Nat.reduceAdd]
    simp only [ex_some, W_var, W_cst, W_bin, W_neg, W_cmp, W_chn, W_and, W_or, W_not, W_ite, W_tup, W_lst, W_dic, W_ix, W_sl, W_fn, W_bi, W_me, W_isi, W_lc, W_a0, W_a1, W_o0, W_o1, W_c0, W_c1, W_iof, W_ir1, W_ir2, W_truR, W_blR, T_and, T_or, T_not, T_var, T_cst, T_cmp, T_chn, T_fn, T_bi, T_isi, S_asg, S_unp, S_set, S_augA, S_augS, S_ex, S_ret, S_retN, S_ife, S_whl, S_fr, S_pas, S_brk, S_cnt, S_rse, b_add, b_sub, b_mul, b_div, b_mod, b_pow, b_str, b_tup, b_ref, c_eq, c_ne, c_in, c_ni, c_lt, c_le, c_gt, c_ge, c_ltS, c_is, c_isN, c_isB, q_int, q_str, q_bl, q_is, q_si, x_tup, x_fl, x_str, x_ref, x_dic, x_dicS, s_tup, s_str, s_fl, s_ref, i_len, i_int, i_intB, i_intS, i_abs, i_str, i_min, i_max, i_sum, i_all, i_any, i_list, i_tuple, n_tup, n_fl, n_ref, n_dic, l_fl, l_ref, e_tup, e_fl, e_ref, it_tup, it_fl, it_str, it_ref, k_app, k_ext, k_pop, k_split, k_part, k_join, m_app, m_ext, m_pop, m_split, m_part, m_join, k_cntT, k_cntS, k_sw, k_up, m_cntT, m_cntS, m_sw, m_up, i_rev, y_str, y_int, y_bl, y_non, y_tup, y_fl, y_ref, y_dic, t_bl, t_int, t_non, t_tup, t_fl, t_ref, g_nm, g_tp, setN0, setN1, wipe0, wipe1, stay0, stay1, at_0, at_1, at_2, at_3, at_4, at_5, at_last, ix_0, ix_1, ix_2, cut_init, new_at, new_at1, app_lt, put_at, put_ne, W_ok, W_nx, W_rt, W_bk, W_ct, W_bad, W_badS, List.getElem?_cons_zero, List.getElem?_cons_succ, List.set_cons_zero, List.set_cons_succ, if_true, if_false, Bool.false_eq_true, true_and, and_true, decide_eq_true_eq, decide_eq_false_iff_not, forall_const, not_true_eq_false, not_false_eq_true, false_implies, implies_true, Option.some.injEq, exists_eq_left', exists_eq_left, exists_and_left, fin_nx, fin_rt, fin_bk, fin_ct, fin_ex, Bool.not_eq_true', Bool.not_eq_false', Bool.true_eq_false, reduceCtorEq, D.bl.injEq, D.int.injEq, D.str.injEq, D.ref.injEq, D.tup.injEq, D.fl.injEq, Ob.lst.injEq, Ob.dic.injEq, List.length_map, List.length_append, List.length_cons, List.length_nil, Nat.reduceAdd, Nat.reduceLT, Nat.reduceLeDiff, Nat.zero_lt_succ, false_and, and_false, exists_false, ty_ne, eq_self, Int.cast_ofNat_Int, Int.reduceEq, Int.reduceLT, Int.reduceLE, decide_true, decide_false, ofString_inj, String.reduceEq, Option.map_some, Bool.not_true, Bool.not_false, true_implies, W_cons, W_nil]
  | @node sg xs ys a b ha hb iha ihb =>
    intro n E
    have h1 := ha.pos
    have h2 := hb.pos
    rw [List.length_append]
    obtain ⟨j, ej⟩ : ∃ j, n + (xs.length + ys.length) = j + 1 := ⟨n + (xs.length + ys.length) - 1, by omega⟩
    rw [ej]
    refine W_call P_size_of rfl ?_
    simp only [c_size_of, c_size_of_1, startD, List.map_cons, List.map_nil, List.length_cons, List.length_nil, List.replicate, List.cons_append, List.nil_append, Nat.reduceSub, Nat.reduceAdd]
    simp only [ex_some, W_var, W_cst, W_bin, W_neg, W_cmp, W_chn, W_and, W_or, W_not, W_ite, W_tup, W_lst, W_dic, W_ix, W_sl, W_fn, W_bi, W_me, W_isi, W_lc, W_a0, W_a1, W_o0, W_o1, W_c0, W_c1, W_iof, W_ir1, W_ir2, W_truR, W_blR, T_and, T_or, T_not, T_var, T_cst, T_cmp, T_chn, T_fn, T_bi, T_isi, S_asg, S_unp, S_set, S_augA, S_augS, S_ex, S_ret, S_retN, S_ife, S_whl, S_fr, S_pas, S_brk, S_cnt, S_rse, b_add, b_sub, b_mul, b_div, b_mod, b_pow, b_str, b_tup, b_ref, c_eq, c_ne, c_in, c_ni, c_lt, c_le, c_gt, c_ge, c_ltS, c_is, c_isN, c_isB, q_int, q_str, q_bl, q_is, q_si, x_tup, x_fl, x_str, x_ref, x_dic, x_dicS, s_tup, s_str, s_fl, s_ref, i_len, i_int, i_intB, i_intS, i_abs, i_str, i_min, i_max, i_sum, i_all, i_any, i_list, i_tuple, n_tup, n_fl, n_ref, n_dic, l_fl, l_ref, e_tup, e_fl, e_ref, it_tup, it_fl, it_str, it_ref, k_app, k_ext, k_pop, k_split, k_part, k_join, m_app, m_ext, m_pop, m_split, m_part, m_join, k_cntT, k_cntS, k_sw, k_up, m_cntT, m_cntS, m_sw, m_up, i_rev, y_str, y_int, y_bl, y_non, y_tup, y_fl, y_ref, y_dic, t_bl, t_int, t_non, t_tup, t_fl, t_ref, g_nm, g_tp, setN0, setN1, wipe0, wipe1, stay0, stay1, at_0, at_1, at_2, at_3, at_4, at_5, at_last, ix_0, ix_1, ix_2, cut_init, new_at, new_at1, app_lt, put_at, put_ne, W_ok, W_nx, W_rt, W_bk, W_ct, W_bad, W_badS, List.getElem?_cons_zero, List.getElem?_cons_succ, List.set_cons_zero, List.set_cons_succ, if_true, if_false, Bool.false_eq_true, true_and, and_true, decide_eq_true_eq, decide_eq_false_iff_not, forall_const, not_true_eq_false, not_false_eq_true, false_implies, implies_true, Option.some.injEq, exists_eq_left', exists_eq_left, exists_and_left, fin_nx, fin_rt, fin_bk, fin_ct, fin_ex, Bool.not_eq_true', Bool.not_eq_false', Bool.true_eq_false, reduceCtorEq, D.bl.injEq, D.int.injEq, D.str.injEq, D.ref.injEq, D.tup.injEq, D.fl.injEq, Ob.lst.injEq, Ob.dic.injEq, List.length_map, List.length_append, List.length_cons, List.length_nil, Nat.reduceAdd, Nat.reduceLT, Nat.reduceLeDiff, Nat.zero_lt_succ, false_and, and_false, exists_false, ty_ne, eq_self, Int.cast_ofNat_Int, Int.reduceEq, Int.reduceLT, Int.reduceLE, decide_true, decide_false, ofString_inj, String.reduceEq, Option.map_some, Bool.not_true, Bool.not_false, true_implies, W_cons, W_nil]
    have q1 := iha (j - xs.length) (fun e h => E e h)
    rw [show j - xs.length + xs.length = j by omega] at q1
    refine q1.imp ?_
    rintro _ _ ⟨rfl, rfl⟩
    have q2 := ihb (j - ys.length) (fun e h => E e h)
    rw [show j - ys.length + ys.length = j by omega] at q2
    refine q2.imp ?_
    rintro _ _ ⟨rfl, rfl⟩
    simp only [ex_some, W_var, W_cst, W_bin, W_neg, W_cmp, W_chn, W_and, W_or, W_not, W_ite, W_tup, W_lst, W_dic, W_ix, W_sl, W_fn, W_bi, W_me, W_isi, W_lc, W_a0, W_a1, W_o0, W_o1, W_c0, W_c1, W_iof, W_ir1, W_ir2, W_truR, W_blR, T_and, T_or, T_not, T_var, T_cst, T_cmp, T_chn, T_fn, T_bi, T_isi, S_asg, S_unp, S_set, S_augA, S_augS, S_ex, S_ret, S_retN, S_ife, S_whl, S_fr, S_pas, S_brk, S_cnt, S_rse, b_add, b_sub, b_mul, b_div, b_mod, b_pow, b_str, b_tup, b_ref, c_eq, c_ne, c_in, c_ni, c_lt, c_le, c_gt, c_ge, c_ltS, c_is, c_isN, c_isB, q_int, q_str, q_bl, q_is, q_si, x_tup, x_fl, x_str, x_ref, x_dic, x_dicS, s_tup, s_str, s_fl, s_ref, i_len, i_int, i_intB, i_intS, i_abs, i_str, i_min, i_max, i_sum, i_all, i_any, i_list, i_tuple, n_tup, n_fl, n_ref, n_dic, l_fl, l_ref, e_tup, e_fl, e_ref, it_tup, it_fl, it_str, it_ref, k_app, k_ext, k_pop, k_split, k_part, k_join, m_app, m_ext, m_pop, m_split, m_part, m_join, k_cntT, k_cntS, k_sw, k_up, m_cntT, m_cntS, m_sw, m_up, i_rev, y_str, y_int, y_bl, y_non, y_tup, y_fl, y_ref, y_dic, t_bl, t_int, t_non, t_tup, t_fl, t_ref, g_nm, g_tp, setN0, setN1, wipe0, wipe1, stay0, stay1, at_0, at_1, at_2, at_3, at_4, at_5, at_last, ix_0, ix_1, ix_2, cut_init, new_at, new_at1, app_lt, put_at, put_ne, W_ok, W_nx, W_rt, W_bk, W_ct, W_bad, W_badS, List.getElem?_cons_zero, List.getElem?_cons_succ, List.set_cons_zero, List.set_cons_succ, if_true, if_false, Bool.false_eq_true, true_and, and_true, decide_eq_true_eq, decide_eq_false_iff_not, forall_const, not_true_eq_false, not_false_eq_true, false_implies, implies_true, Option.some.injEq, exists_eq_left', exists_eq_left, exists_and_left, fin_nx, fin_rt, fin_bk, fin_ct, fin_ex, Bool.not_eq_true', Bool.not_eq_false', Bool.true_eq_false, reduceCtorEq, D.bl.injEq, D.int.injEq, D.str.injEq, D.ref.injEq, D.tup.injEq, D.fl.injEq, Ob.lst.injEq, Ob.dic.injEq, List.length_map, List.length_append, List.length_cons, List.length_nil, Nat.reduceAdd, Nat.reduceLT, Nat.reduceLeDiff, Nat.zero_lt_succ, false_and, and_false, exists_false, ty_ne, eq_self, Int.cast_ofNat_Int, Int.reduceEq, Int.reduceLT, Int.reduceLE, decide_true, decide_false, ofString_inj, String.reduceEq, Option.map_some, Bool.not_true, Bool.not_false, true_implies]
    omega
end
/-! ### the measures -/
section
variable {wf n : Nat} {E : Nat → Hd → Prop} {h : Hd}
theorem int_ok {i : Int} : (callN P wf (n + 1) 15 [.int i] h).W E (fun d h' => h' = h ∧ d = .bl true) := by
  refine W_call P__law_is_integer rfl ?_
  simp only [c__law_is_integer, startD, List.map_cons, List.map_nil, List.length_cons, List.length_nil, List.replicate, List.cons_append, List.nil_append, Nat.reduceSub, Nat.reduceAdd]
  simp only [ex_some, W_var, W_cst, W_bin, W_neg, W_cmp, W_chn, W_and, W_or, W_not, W_ite, W_tup, W_lst, W_dic, W_ix, W_sl, W_fn, W_bi, W_me, W_isi, W_lc, W_a0, W_a1, W_o0, W_o1, W_c0, W_c1, W_iof, W_ir1, W_ir2, W_truR, W_blR, T_and, T_or, T_not, T_var, T_cst, T_cmp, T_chn, T_fn, T_bi, T_isi, S_asg, S_unp, S_set, S_augA, S_augS, S_ex, S_ret, S_retN, S_ife, S_whl, S_fr, S_pas, S_brk, S_cnt, S_rse, b_add, b_sub, b_mul, b_div, b_mod, b_pow, b_str, b_tup, b_ref, c_eq, c_ne, c_in, c_ni, c_lt, c_le, c_gt, c_ge, c_ltS, c_is, c_isN, c_isB, q_int, q_str, q_bl, q_is, q_si, x_tup, x_fl, x_str, x_ref, x_dic, x_dicS, s_tup, s_str, s_fl, s_ref, i_len, i_int, i_intB, i_intS, i_abs, i_str, i_min, i_max, i_sum, i_all, i_any, i_list, i_tuple, n_tup, n_fl, n_ref, n_dic, l_fl, l_ref, e_tup, e_fl, e_ref, it_tup, it_fl, it_str, it_ref, k_app, k_ext, k_pop, k_split, k_part, k_join, m_app, m_ext, m_pop, m_split, m_part, m_join, k_cntT, k_cntS, k_sw, k_up, m_cntT, m_cntS, m_sw, m_up, i_rev, y_str, y_int, y_bl, y_non, y_tup, y_fl, y_ref, y_dic, t_bl, t_int, t_non, t_tup, t_fl, t_ref, g_nm, g_tp, setN0, setN1, wipe0, wipe1, stay0, stay1, at_0, at_1, at_2, at_3, at_4, at_5, at_last, ix_0, ix_1, ix_2, cut_init, new_at, new_at1, app_lt, put_at, put_ne, W_ok, W_nx, W_rt, W_bk, W_ct, W_bad, W_badS, List.getElem?_cons_zero, List.getElem?_cons_succ, List.set_cons_zero, List.set_cons_succ, if_true, if_false, Bool.false_eq_true, true_and, and_true, decide_eq_true_eq, decide_eq_false_iff_not, forall_const, not_true_eq_false, not_false_eq_true, false_implies, implies_true, Option.some.injEq, exists_eq_left', exists_eq_left, exists_and_left, fin_nx, fin_rt, fin_bk, fin_ct, fin_ex, Bool.not_eq_true', Bool.not_eq_false', Bool.true_eq_false, reduceCtorEq, D.bl.injEq, D.int.injEq, D.str.injEq, D.ref.injEq, D.tup.injEq, D.fl.injEq, Ob.lst.injEq, Ob.dic.injEq, List.length_map, List.length_append, List.length_cons, List.length_nil, Nat.reduceAdd, Nat.reduceLT, Nat.reduceLeDiff, Nat.zero_lt_succ, false_and, and_false, exists_false, ty_ne, eq_self, Int.cast_ofNat_Int, Int.reduceEq, Int.reduceLT, Int.reduceLE, decide_true, decide_false, ofString_inj, String.reduceEq, Option.map_some, Bool.not_true, Bool.not_false, true_implies, W_cons, W_nil]
theorem same_ok {ts : List Str} {t : Nat} (et : h[t]? = some (.lst (ts.map D.str))) (hl : ts.length ≤ 40) : (callN P wf (n + 1) 16 [.tup (ts.map D.str), .ref t] h).W E (fun d h' => h' = h ∧ d = .bl true) := by
  refine W_call P__law_same_texts rfl ?_
  simp only [c__law_same_texts, c__law_same_texts_1, c__law_same_texts_2, startD, List.map_cons, List.map_nil, List.length_cons, List.length_nil, List.replicate, List.cons_append, List.nil_append, Nat.reduceSub, Nat.reduceAdd]
  simp only [ex_some, W_var, W_cst, W_bin, W_neg, W_cmp, W_chn, W_and, W_or, W_not, W_ite, W_tup, W_lst, W_dic, W_ix, W_sl, W_fn, W_bi, W_me, W_isi, W_lc, W_a0, W_a1, W_o0, W_o1, W_c0, W_c1, W_iof, W_ir1, W_ir2, W_truR, W_blR, T_and, T_or, T_not, T_var, T_cst, T_cmp, T_chn, T_fn, T_bi, T_isi, S_asg, S_unp, S_set, S_augA, S_augS, S_ex, S_ret, S_retN, S_ife, S_whl, S_fr, S_pas, S_brk, S_cnt, S_rse, b_add, b_sub, b_mul, b_div, b_mod, b_pow, b_str, b_tup, b_ref, c_eq, c_ne, c_in, c_ni, c_lt, c_le, c_gt, c_ge, c_ltS, c_is, c_isN, c_isB, q_int, q_str, q_bl, q_is, q_si, x_tup, x_fl, x_str, x_ref, x_dic, x_dicS, s_tup, s_str, s_fl, s_ref, i_len, i_int, i_intB, i_intS, i_abs, i_str, i_min, i_max, i_sum, i_all, i_any, i_list, i_tuple, n_tup, n_fl, n_ref, n_dic, l_fl, l_ref, e_tup, e_fl, e_ref, it_tup, it_fl, it_str, it_ref, k_app, k_ext, k_pop, k_split, k_part, k_join, m_app, m_ext, m_pop, m_split, m_part, m_join, k_cntT, k_cntS, k_sw, k_up, m_cntT, m_cntS, m_sw, m_up, i_rev, y_str, y_int, y_bl, y_non, y_tup, y_fl, y_ref, y_dic, t_bl, t_int, t_non, t_tup, t_fl, t_ref, g_nm, g_tp, setN0, setN1, wipe0, wipe1, stay0, stay1, at_0, at_1, at_2, at_3, at_4, at_5, at_last, ix_0, ix_1, ix_2, cut_init, new_at, new_at1, app_lt, put_at, put_ne, W_ok, W_nx, W_rt, W_bk, W_ct, W_bad, W_badS, List.getElem?_cons_zero, List.getElem?_cons_succ, List.set_cons_zero, List.set_cons_succ, if_true, if_false, Bool.false_eq_true, true_and, and_true, decide_eq_true_eq, decide_eq_false_iff_not, forall_const, not_true_eq_false, not_false_eq_true, false_implies, implies_true, Option.some.injEq, exists_eq_left', exists_eq_left, exists_and_left, fin_nx, fin_rt, fin_bk, fin_ct, fin_ex, Bool.not_eq_true', Bool.not_eq_false', Bool.true_eq_false, reduceCtorEq, D.bl.injEq, D.int.injEq, D.str.injEq, D.ref.injEq, D.tup.injEq, D.fl.injEq, Ob.lst.injEq, Ob.dic.injEq, List.length_map, List.length_append, List.length_cons, List.length_nil, Nat.reduceAdd, Nat.reduceLT, Nat.reduceLeDiff, Nat.zero_lt_succ, false_and, and_false, exists_false, ty_ne, eq_self, Int.cast_ofNat_Int, Int.reduceEq, Int.reduceLT, Int.reduceLE, decide_true, decide_false, ofString_inj, String.reduceEq, Option.map_some, Bool.not_true, Bool.not_false, true_implies, W_cons, W_nil, et]
  refine ⟨⟨by omega, by omega⟩, ?_⟩
  refine W_for (fun i σ h' => h' = h ∧ ∃ y, σ = [some (.tup (ts.map D.str)), some (.ref t), y]) ⟨rfl, _, rfl⟩ ?_ ?_
  · rintro i d σ h' e ⟨rfl, y, rfl⟩
    obtain ⟨hi, rfl⟩ := rng_get e
    have hi' : i < ts.length := by omega
    have ex := List.getElem?_eq_getElem hi'
    refine ⟨_, rfl, ?_⟩
    simp only [ex_some, W_var, W_cst, W_bin, W_neg, W_cmp, W_chn, W_and, W_or, W_not, W_ite, W_tup, W_lst, W_dic, W_ix, W_sl, W_fn, W_bi, W_me, W_isi, W_lc, W_a0, W_a1, W_o0, W_o1, W_c0, W_c1, W_iof, W_ir1, W_ir2, W_truR, W_blR, T_and, T_or, T_not, T_var, T_cst, T_cmp, T_chn, T_fn, T_bi, T_isi, S_asg, S_unp, S_set, S_augA, S_augS, S_ex, S_ret, S_retN, S_ife, S_whl, S_fr, S_pas, S_brk, S_cnt, S_rse, b_add, b_sub, b_mul, b_div, b_mod, b_pow, b_str, b_tup, b_ref, c_eq, c_ne, c_in, c_ni, c_lt, c_le, c_gt, c_ge, c_ltS, c_is, c_isN, c_isB, q_int, q_str, q_bl, q_is, q_si, x_tup, x_fl, x_str, x_ref, x_dic, x_dicS, s_tup, s_str, s_fl, s_ref, i_len, i_int, i_intB, i_intS, i_abs, i_str, i_min, i_max, i_sum, i_all, i_any, i_list, i_tuple, n_tup, n_fl, n_ref, n_dic, l_fl, l_ref, e_tup, e_fl, e_ref, it_tup, it_fl, it_str, it_ref, k_app, k_ext, k_pop, k_split, k_part, k_join, m_app, m_ext, m_pop, m_split, m_part, m_join, k_cntT, k_cntS, k_sw, k_up, m_cntT, m_cntS, m_sw, m_up, i_rev, y_str, y_int, y_bl, y_non, y_tup, y_fl, y_ref, y_dic, t_bl, t_int, t_non, t_tup, t_fl, t_ref, g_nm, g_tp, setN0, setN1, wipe0, wipe1, stay0, stay1, at_0, at_1, at_2, at_3, at_4, at_5, at_last, ix_0, ix_1, ix_2, cut_init, new_at, new_at1, app_lt, put_at, put_ne, W_ok, W_nx, W_rt, W_bk, W_ct, W_bad, W_badS, List.getElem?_cons_zero, List.getElem?_cons_succ, List.set_cons_zero, List.set_cons_succ, if_true, if_false, Bool.false_eq_true, true_and, and_true, decide_eq_true_eq, decide_eq_false_iff_not, forall_const, not_true_eq_false, not_false_eq_true, false_implies, implies_true, Option.some.injEq, exists_eq_left', exists_eq_left, exists_and_left, fin_nx, fin_rt, fin_bk, fin_ct, fin_ex, Bool.not_eq_true', Bool.not_eq_false', Bool.true_eq_false, reduceCtorEq, D.bl.injEq, D.int.injEq, D.str.injEq, D.ref.injEq, D.tup.injEq, D.fl.injEq, Ob.lst.injEq, Ob.dic.injEq, List.length_map, List.length_append, List.length_cons, List.length_nil, Nat.reduceAdd, Nat.reduceLT, Nat.reduceLeDiff, Nat.zero_lt_succ, false_and, and_false, exists_false, ty_ne, eq_self, Int.cast_ofNat_Int, Int.reduceEq, Int.reduceLT, Int.reduceLE, decide_true, decide_false, ofString_inj, String.reduceEq, Option.map_some, Bool.not_true, Bool.not_false, true_implies, W_cons, W_nil, et, at_nat (show (0 : Int) + i = i by omega), map_at, ex]
    exact ⟨_, rfl⟩
  · rintro σ h' ⟨rfl, y, rfl⟩
    dsimp only
theorem cnt_str {ts : List Str} {s : Str} : cntD (ts.map D.str) (.str s) = some (ts.countP fun z => z == s) := by
  unfold cntD
  rw [if_pos ⟨rfl, by rw [List.all_eq_true]; intro x hx; obtain ⟨y, _, rfl⟩ := List.mem_map.mp hx; rfl⟩, List.countP_map]
  rfl
theorem count_ok {ts : List Str} {d : D} {s : Str} (k : KB ts d) (hl : ts.length ≤ 40) : (callN P wf (n + ts.length + 1) 3 [d, .str s] h).W E (fun r h' => h' = h ∧ r = .int (ts.countP fun z => z == s : Nat)) := by
  refine W_call P_count_of rfl ?_
  simp only [c_count_of, startD, List.map_cons, List.map_nil, List.length_cons, List.length_nil, List.replicate, List.cons_append, List.nil_append, Nat.reduceSub, Nat.reduceAdd]
  simp only [ex_some, W_var, W_cst, W_bin, W_neg, W_cmp, W_chn, W_and, W_or, W_not, W_ite, W_tup, W_lst, W_dic, W_ix, W_sl, W_fn, W_bi, W_me, W_isi, W_lc, W_a0, W_a1, W_o0, W_o1, W_c0, W_c1, W_iof, W_ir1, W_ir2, W_truR, W_blR, T_and, T_or, T_not, T_var, T_cst, T_cmp, T_chn, T_fn, T_bi, T_isi, S_asg, S_unp, S_set, S_augA, S_augS, S_ex, S_ret, S_retN, S_ife, S_whl, S_fr, S_pas, S_brk, S_cnt, S_rse, b_add, b_sub, b_mul, b_div, b_mod, b_pow, b_str, b_tup, b_ref, c_eq, c_ne, c_in, c_ni, c_lt, c_le, c_gt, c_ge, c_ltS, c_is, c_isN, c_isB, q_int, q_str, q_bl, q_is, q_si, x_tup, x_fl, x_str, x_ref, x_dic, x_dicS, s_tup, s_str, s_fl, s_ref, i_len, i_int, i_intB, i_intS, i_abs, i_str, i_min, i_max, i_sum, i_all, i_any, i_list, i_tuple, n_tup, n_fl, n_ref, n_dic, l_fl, l_ref, e_tup, e_fl, e_ref, it_tup, it_fl, it_str, it_ref, k_app, k_ext, k_pop, k_split, k_part, k_join, m_app, m_ext, m_pop, m_split, m_part, m_join, k_cntT, k_cntS, k_sw, k_up, m_cntT, m_cntS, m_sw, m_up, i_rev, y_str, y_int, y_bl, y_non, y_tup, y_fl, y_ref, y_dic, t_bl, t_int, t_non, t_tup, t_fl, t_ref, g_nm, g_tp, setN0, setN1, wipe0, wipe1, stay0, stay1, at_0, at_1, at_2, at_3, at_4, at_5, at_last, ix_0, ix_1, ix_2, cut_init, new_at, new_at1, app_lt, put_at, put_ne, W_ok, W_nx, W_rt, W_bk, W_ct, W_bad, W_badS, List.getElem?_cons_zero, List.getElem?_cons_succ, List.set_cons_zero, List.set_cons_succ, if_true, if_false, Bool.false_eq_true, true_and, and_true, decide_eq_true_eq, decide_eq_false_iff_not, forall_const, not_true_eq_false, not_false_eq_true, false_implies, implies_true, Option.some.injEq, exists_eq_left', exists_eq_left, exists_and_left, fin_nx, fin_rt, fin_bk, fin_ct, fin_ex, Bool.not_eq_true', Bool.not_eq_false', Bool.true_eq_false, reduceCtorEq, D.bl.injEq, D.int.injEq, D.str.injEq, D.ref.injEq, D.tup.injEq, D.fl.injEq, Ob.lst.injEq, Ob.dic.injEq, List.length_map, List.length_append, List.length_cons, List.length_nil, Nat.reduceAdd, Nat.reduceLT, Nat.reduceLeDiff, Nat.zero_lt_succ, false_and, and_false, exists_false, ty_ne, eq_self, Int.cast_ofNat_Int, Int.reduceEq, Int.reduceLT, Int.reduceLE, decide_true, decide_false, ofString_inj, String.reduceEq, Option.map_some, Bool.not_true, Bool.not_false, true_implies, W_cons, W_nil]
  refine (atoms_ok k n _ hl).imp ?_
  rintro _ _ ⟨rfl, rfl⟩
  simp only [ex_some, W_var, W_cst, W_bin, W_neg, W_cmp, W_chn, W_and, W_or, W_not, W_ite, W_tup, W_lst, W_dic, W_ix, W_sl, W_fn, W_bi, W_me, W_isi, W_lc, W_a0, W_a1, W_o0, W_o1, W_c0, W_c1, W_iof, W_ir1, W_ir2, W_truR, W_blR, T_and, T_or, T_not, T_var, T_cst, T_cmp, T_chn, T_fn, T_bi, T_isi, S_asg, S_unp, S_set, S_augA, S_augS, S_ex, S_ret, S_retN, S_ife, S_whl, S_fr, S_pas, S_brk, S_cnt, S_rse, b_add, b_sub, b_mul, b_div, b_mod, b_pow, b_str, b_tup, b_ref, c_eq, c_ne, c_in, c_ni, c_lt, c_le, c_gt, c_ge, c_ltS, c_is, c_isN, c_isB, q_int, q_str, q_bl, q_is, q_si, x_tup, x_fl, x_str, x_ref, x_dic, x_dicS, s_tup, s_str, s_fl, s_ref, i_len, i_int, i_intB, i_intS, i_abs, i_str, i_min, i_max, i_sum, i_all, i_any, i_list, i_tuple, n_tup, n_fl, n_ref, n_dic, l_fl, l_ref, e_tup, e_fl, e_ref, it_tup, it_fl, it_str, it_ref, k_app, k_ext, k_pop, k_split, k_part, k_join, m_app, m_ext, m_pop, m_split, m_part, m_join, k_cntT, k_cntS, k_sw, k_up, m_cntT, m_cntS, m_sw, m_up, i_rev, y_str, y_int, y_bl, y_non, y_tup, y_fl, y_ref, y_dic, t_bl, t_int, t_non, t_tup, t_fl, t_ref, g_nm, g_tp, setN0, setN1, wipe0, wipe1, stay0, stay1, at_0, at_1, at_2, at_3, at_4, at_5, at_last, ix_0, ix_1, ix_2, cut_init, new_at, new_at1, app_lt, put_at, put_ne, W_ok, W_nx, W_rt, W_bk, W_ct, W_bad, W_badS, List.getElem?_cons_zero, List.getElem?_cons_succ, List.set_cons_zero, List.set_cons_succ, if_true, if_false, Bool.false_eq_true, true_and, and_true, decide_eq_true_eq, decide_eq_false_iff_not, forall_const, not_true_eq_false, not_false_eq_true, false_implies, implies_true, Option.some.injEq, exists_eq_left', exists_eq_left, exists_and_left, fin_nx, fin_rt, fin_bk, fin_ct, fin_ex, Bool.not_eq_true', Bool.not_eq_false', Bool.true_eq_false, reduceCtorEq, D.bl.injEq, D.int.injEq, D.str.injEq, D.ref.injEq, D.tup.injEq, D.fl.injEq, Ob.lst.injEq, Ob.dic.injEq, List.length_map, List.length_append, List.length_cons, List.length_nil, Nat.reduceAdd, Nat.reduceLT, Nat.reduceLeDiff, Nat.zero_lt_succ, false_and, and_false, exists_false, ty_ne, eq_self, Int.cast_ofNat_Int, Int.reduceEq, Int.reduceLT, Int.reduceLE, decide_true, decide_false, ofString_inj, String.reduceEq, Option.map_some, Bool.not_true, Bool.not_false, true_implies, W_cons, W_nil, cnt_str]
theorem signs_ok {ts : List Str} {d : D} (k : KB ts d) : (callN P wf (n + ts.length + 1) 1 [d] h).W E (fun r h' => h' = h ∧ r = .int (ts.length - 1)) := by
  refine W_call P_signs_of rfl ?_
  simp only [c_signs_of, startD, List.map_cons, List.map_nil, List.length_cons, List.length_nil, List.replicate, List.cons_append, List.nil_append, Nat.reduceSub, Nat.reduceAdd]
  simp only [ex_some, W_var, W_cst, W_bin, W_neg, W_cmp, W_chn, W_and, W_or, W_not, W_ite, W_tup, W_lst, W_dic, W_ix, W_sl, W_fn, W_bi, W_me, W_isi, W_lc, W_a0, W_a1, W_o0, W_o1, W_c0, W_c1, W_iof, W_ir1, W_ir2, W_truR, W_blR, T_and, T_or, T_not, T_var, T_cst, T_cmp, T_chn, T_fn, T_bi, T_isi, S_asg, S_unp, S_set, S_augA, S_augS, S_ex, S_ret, S_retN, S_ife, S_whl, S_fr, S_pas, S_brk, S_cnt, S_rse, b_add, b_sub, b_mul, b_div, b_mod, b_pow, b_str, b_tup, b_ref, c_eq, c_ne, c_in, c_ni, c_lt, c_le, c_gt, c_ge, c_ltS, c_is, c_isN, c_isB, q_int, q_str, q_bl, q_is, q_si, x_tup, x_fl, x_str, x_ref, x_dic, x_dicS, s_tup, s_str, s_fl, s_ref, i_len, i_int, i_intB, i_intS, i_abs, i_str, i_min, i_max, i_sum, i_all, i_any, i_list, i_tuple, n_tup, n_fl, n_ref, n_dic, l_fl, l_ref, e_tup, e_fl, e_ref, it_tup, it_fl, it_str, it_ref, k_app, k_ext, k_pop, k_split, k_part, k_join, m_app, m_ext, m_pop, m_split, m_part, m_join, k_cntT, k_cntS, k_sw, k_up, m_cntT, m_cntS, m_sw, m_up, i_rev, y_str, y_int, y_bl, y_non, y_tup, y_fl, y_ref, y_dic, t_bl, t_int, t_non, t_tup, t_fl, t_ref, g_nm, g_tp, setN0, setN1, wipe0, wipe1, stay0, stay1, at_0, at_1, at_2, at_3, at_4, at_5, at_last, ix_0, ix_1, ix_2, cut_init, new_at, new_at1, app_lt, put_at, put_ne, W_ok, W_nx, W_rt, W_bk, W_ct, W_bad, W_badS, List.getElem?_cons_zero, List.getElem?_cons_succ, List.set_cons_zero, List.set_cons_succ, if_true, if_false, Bool.false_eq_true, true_and, and_true, decide_eq_true_eq, decide_eq_false_iff_not, forall_const, not_true_eq_false, not_false_eq_true, false_implies, implies_true, Option.some.injEq, exists_eq_left', exists_eq_left, exists_and_left, fin_nx, fin_rt, fin_bk, fin_ct, fin_ex, Bool.not_eq_true', Bool.not_eq_false', Bool.true_eq_false, reduceCtorEq, D.bl.injEq, D.int.injEq, D.str.injEq, D.ref.injEq, D.tup.injEq, D.fl.injEq, Ob.lst.injEq, Ob.dic.injEq, List.length_map, List.length_append, List.length_cons, List.length_nil, Nat.reduceAdd, Nat.reduceLT, Nat.reduceLeDiff, Nat.zero_lt_succ, false_and, and_false, exists_false, ty_ne, eq_self, Int.cast_ofNat_Int, Int.reduceEq, Int.reduceLT, Int.reduceLE, decide_true, decide_false, ofString_inj, String.reduceEq, Option.map_some, Bool.not_true, Bool.not_false, true_implies, W_cons, W_nil]
  refine (size_ok k n _).imp ?_
  rintro _ _ ⟨rfl, rfl⟩
  simp only [ex_some, W_var, W_cst, W_bin, W_neg, W_cmp, W_chn, W_and, W_or, W_not, W_ite, W_tup, W_lst, W_dic, W_ix, W_sl, W_fn, W_bi, W_me, W_isi, W_lc, W_a0, W_a1, W_o0, W_o1, W_c0, W_c1, W_iof, W_ir1, W_ir2, W_truR, W_blR, T_and, T_or, T_not, T_var, T_cst, T_cmp, T_chn, T_fn, T_bi, T_isi, S_asg, S_unp, S_set, S_augA, S_augS, S_ex, S_ret, S_retN, S_ife, S_whl, S_fr, S_pas, S_brk, S_cnt, S_rse, b_add, b_sub, b_mul, b_div, b_mod, b_pow, b_str, b_tup, b_ref, c_eq, c_ne, c_in, c_ni, c_lt, c_le, c_gt, c_ge, c_ltS, c_is, c_isN, c_isB, q_int, q_str, q_bl, q_is, q_si, x_tup, x_fl, x_str, x_ref, x_dic, x_dicS, s_tup, s_str, s_fl, s_ref, i_len, i_int, i_intB, i_intS, i_abs, i_str, i_min, i_max, i_sum, i_all, i_any, i_list, i_tuple, n_tup, n_fl, n_ref, n_dic, l_fl, l_ref, e_tup, e_fl, e_ref, it_tup, it_fl, it_str, it_ref, k_app, k_ext, k_pop, k_split, k_part, k_join, m_app, m_ext, m_pop, m_split, m_part, m_join, k_cntT, k_cntS, k_sw, k_up, m_cntT, m_cntS, m_sw, m_up, i_rev, y_str, y_int, y_bl, y_non, y_tup, y_fl, y_ref, y_dic, t_bl, t_int, t_non, t_tup, t_fl, t_ref, g_nm, g_tp, setN0, setN1, wipe0, wipe1, stay0, stay1, at_0, at_1, at_2, at_3, at_4, at_5, at_last, ix_0, ix_1, ix_2, cut_init, new_at, new_at1, app_lt, put_at, put_ne, W_ok, W_nx, W_rt, W_bk, W_ct, W_bad, W_badS, List.getElem?_cons_zero, List.getElem?_cons_succ, List.set_cons_zero, List.set_cons_succ, if_true, if_false, Bool.false_eq_true, true_and, and_true, decide_eq_true_eq, decide_eq_false_iff_not, forall_const, not_true_eq_false, not_false_eq_true, false_implies, implies_true, Option.some.injEq, exists_eq_left', exists_eq_left, exists_and_left, fin_nx, fin_rt, fin_bk, fin_ct, fin_ex, Bool.not_eq_true', Bool.not_eq_false', Bool.true_eq_false, reduceCtorEq, D.bl.injEq, D.int.injEq, D.str.injEq, D.ref.injEq, D.tup.injEq, D.fl.injEq, Ob.lst.injEq, Ob.dic.injEq, List.length_map, List.length_append, List.length_cons, List.length_nil, Nat.reduceAdd, Nat.reduceLT, Nat.reduceLeDiff, Nat.zero_lt_succ, false_and, and_false, exists_false, ty_ne, eq_self, Int.cast_ofNat_Int, Int.reduceEq, Int.reduceLT, Int.reduceLE, decide_true, decide_false, ofString_inj, String.reduceEq, Option.map_some, Bool.not_true, Bool.not_false, true_implies, W_cons, W_nil]
theorem measured_ok {ts as : List Str} {kd : D} {t a : Nat} (k : KB ts kd) (hl : ts.length ≤ 40) (et : h[t]? = some (.lst (ts.map D.str))) (ea : h[a]? = some (.lst (as.map D.str))) : (callN P wf (n + 50) 17 [kd, .ref t, .ref a] h).W E (fun d h' => d = .bl true ∧ Eg.Fr [] h h') := by
  refine W_call (n := n + 49) P__law_measured rfl ?_
  simp only [c__law_measured, c__law_measured_1, c__law_measured_2, c__law_measured_3, c__law_measured_4, startD, List.map_cons, List.map_nil, List.length_cons, List.length_nil, List.replicate, List.cons_append, List.nil_append, Nat.reduceSub, Nat.reduceAdd]
  rw [W_cons]
  simp only [ex_some, W_var, W_cst, W_bin, W_neg, W_cmp, W_chn, W_and, W_or, W_not, W_ite, W_tup, W_lst, W_dic, W_ix, W_sl, W_fn, W_bi, W_me, W_isi, W_lc, W_a0, W_a1, W_o0, W_o1, W_c0, W_c1, W_iof, W_ir1, W_ir2, W_truR, W_blR, T_and, T_or, T_not, T_var, T_cst, T_cmp, T_chn, T_fn, T_bi, T_isi, S_asg, S_unp, S_set, S_augA, S_augS, S_ex, S_ret, S_retN, S_ife, S_whl, S_fr, S_pas, S_brk, S_cnt, S_rse, b_add, b_sub, b_mul, b_div, b_mod, b_pow, b_str, b_tup, b_ref, c_eq, c_ne, c_in, c_ni, c_lt, c_le, c_gt, c_ge, c_ltS, c_is, c_isN, c_isB, q_int, q_str, q_bl, q_is, q_si, x_tup, x_fl, x_str, x_ref, x_dic, x_dicS, s_tup, s_str, s_fl, s_ref, i_len, i_int, i_intB, i_intS, i_abs, i_str, i_min, i_max, i_sum, i_all, i_any, i_list, i_tuple, n_tup, n_fl, n_ref, n_dic, l_fl, l_ref, e_tup, e_fl, e_ref, it_tup, it_fl, it_str, it_ref, k_app, k_ext, k_pop, k_split, k_part, k_join, m_app, m_ext, m_pop, m_split, m_part, m_join, k_cntT, k_cntS, k_sw, k_up, m_cntT, m_cntS, m_sw, m_up, i_rev, y_str, y_int, y_bl, y_non, y_tup, y_fl, y_ref, y_dic, t_bl, t_int, t_non, t_tup, t_fl, t_ref, g_nm, g_tp, setN0, setN1, wipe0, wipe1, stay0, stay1, at_0, at_1, at_2, at_3, at_4, at_5, at_last, ix_0, ix_1, ix_2, cut_init, new_at, new_at1, app_lt, put_at, put_ne, W_ok, W_nx, W_rt, W_bk, W_ct, W_bad, W_badS, List.getElem?_cons_zero, List.getElem?_cons_succ, List.set_cons_zero, List.set_cons_succ, if_true, if_false, Bool.false_eq_true, true_and, and_true, decide_eq_true_eq, decide_eq_false_iff_not, forall_const, not_true_eq_false, not_false_eq_true, false_implies, implies_true, Option.some.injEq, exists_eq_left', exists_eq_left, exists_and_left, fin_nx, fin_rt, fin_bk, fin_ct, fin_ex, Bool.not_eq_true', Bool.not_eq_false', Bool.true_eq_false, reduceCtorEq, D.bl.injEq, D.int.injEq, D.str.injEq, D.ref.injEq, D.tup.injEq, D.fl.injEq, Ob.lst.injEq, Ob.dic.injEq, List.length_map, List.length_append, List.length_cons, List.length_nil, Nat.reduceAdd, Nat.reduceLT, Nat.reduceLeDiff, Nat.zero_lt_succ, false_and, and_false, exists_false, ty_ne, eq_self, Int.cast_ofNat_Int, Int.reduceEq, Int.reduceLT, Int.reduceLE, decide_true, decide_false, ofString_inj, String.reduceEq, Option.map_some, Bool.not_true, Bool.not_false, true_implies]
  have q1 := atoms_ok (wf := wf) (h := h) k (n + 49 - ts.length) (fun e h => E e h) hl
  rw [show n + 49 - ts.length + ts.length = n + 49 by omega] at q1
  refine q1.imp ?_
  rintro _ h ⟨rfl, rfl⟩
  refine (same_ok (n := n + 48) et hl).imp ?_
  rintro _ h ⟨rfl, rfl⟩
  simp only [ex_some, W_var, W_cst, W_bin, W_neg, W_cmp, W_chn, W_and, W_or, W_not, W_ite, W_tup, W_lst, W_dic, W_ix, W_sl, W_fn, W_bi, W_me, W_isi, W_lc, W_a0, W_a1, W_o0, W_o1, W_c0, W_c1, W_iof, W_ir1, W_ir2, W_truR, W_blR, T_and, T_or, T_not, T_var, T_cst, T_cmp, T_chn, T_fn, T_bi, T_isi, S_asg, S_unp, S_set, S_augA, S_augS, S_ex, S_ret, S_retN, S_ife, S_whl, S_fr, S_pas, S_brk, S_cnt, S_rse, b_add, b_sub, b_mul, b_div, b_mod, b_pow, b_str, b_tup, b_ref, c_eq, c_ne, c_in, c_ni, c_lt, c_le, c_gt, c_ge, c_ltS, c_is, c_isN, c_isB, q_int, q_str, q_bl, q_is, q_si, x_tup, x_fl, x_str, x_ref, x_dic, x_dicS, s_tup, s_str, s_fl, s_ref, i_len, i_int, i_intB, i_intS, i_abs, i_str, i_min, i_max, i_sum, i_all, i_any, i_list, i_tuple, n_tup, n_fl, n_ref, n_dic, l_fl, l_ref, e_tup, e_fl, e_ref, it_tup, it_fl, it_str, it_ref, k_app, k_ext, k_pop, k_split, k_part, k_join, m_app, m_ext, m_pop, m_split, m_part, m_join, k_cntT, k_cntS, k_sw, k_up, m_cntT, m_cntS, m_sw, m_up, i_rev, y_str, y_int, y_bl, y_non, y_tup, y_fl, y_ref, y_dic, t_bl, t_int, t_non, t_tup, t_fl, t_ref, g_nm, g_tp, setN0, setN1, wipe0, wipe1, stay0, stay1, at_0, at_1, at_2, at_3, at_4, at_5, at_last, ix_0, ix_1, ix_2, cut_init, new_at, new_at1, app_lt, put_at, put_ne, W_ok, W_nx, W_rt, W_bk, W_ct, W_bad, W_badS, List.getElem?_cons_zero, List.getElem?_cons_succ, List.set_cons_zero, List.set_cons_succ, if_true, if_false, Bool.false_eq_true, true_and, and_true, decide_eq_true_eq, decide_eq_false_iff_not, forall_const, not_true_eq_false, not_false_eq_true, false_implies, implies_true, Option.some.injEq, exists_eq_left', exists_eq_left, exists_and_left, fin_nx, fin_rt, fin_bk, fin_ct, fin_ex, Bool.not_eq_true', Bool.not_eq_false', Bool.true_eq_false, reduceCtorEq, D.bl.injEq, D.int.injEq, D.str.injEq, D.ref.injEq, D.tup.injEq, D.fl.injEq, Ob.lst.injEq, Ob.dic.injEq, List.length_map, List.length_append, List.length_cons, List.length_nil, Nat.reduceAdd, Nat.reduceLT, Nat.reduceLeDiff, Nat.zero_lt_succ, false_and, and_false, exists_false, ty_ne, eq_self, Int.cast_ofNat_Int, Int.reduceEq, Int.reduceLT, Int.reduceLE, decide_true, decide_false, ofString_inj, String.reduceEq, Option.map_some, Bool.not_true, Bool.not_false, true_implies, W_nil]
  rw [W_cons]
  simp only [ex_some, W_var, W_cst, W_bin, W_neg, W_cmp, W_chn, W_and, W_or, W_not, W_ite, W_tup, W_lst, W_dic, W_ix, W_sl, W_fn, W_bi, W_me, W_isi, W_lc, W_a0, W_a1, W_o0, W_o1, W_c0, W_c1, W_iof, W_ir1, W_ir2, W_truR, W_blR, T_and, T_or, T_not, T_var, T_cst, T_cmp, T_chn, T_fn, T_bi, T_isi, S_asg, S_unp, S_set, S_augA, S_augS, S_ex, S_ret, S_retN, S_ife, S_whl, S_fr, S_pas, S_brk, S_cnt, S_rse, b_add, b_sub, b_mul, b_div, b_mod, b_pow, b_str, b_tup, b_ref, c_eq, c_ne, c_in, c_ni, c_lt, c_le, c_gt, c_ge, c_ltS, c_is, c_isN, c_isB, q_int, q_str, q_bl, q_is, q_si, x_tup, x_fl, x_str, x_ref, x_dic, x_dicS, s_tup, s_str, s_fl, s_ref, i_len, i_int, i_intB, i_intS, i_abs, i_str, i_min, i_max, i_sum, i_all, i_any, i_list, i_tuple, n_tup, n_fl, n_ref, n_dic, l_fl, l_ref, e_tup, e_fl, e_ref, it_tup, it_fl, it_str, it_ref, k_app, k_ext, k_pop, k_split, k_part, k_join, m_app, m_ext, m_pop, m_split, m_part, m_join, k_cntT, k_cntS, k_sw, k_up, m_cntT, m_cntS, m_sw, m_up, i_rev, y_str, y_int, y_bl, y_non, y_tup, y_fl, y_ref, y_dic, t_bl, t_int, t_non, t_tup, t_fl, t_ref, g_nm, g_tp, setN0, setN1, wipe0, wipe1, stay0, stay1, at_0, at_1, at_2, at_3, at_4, at_5, at_last, ix_0, ix_1, ix_2, cut_init, new_at, new_at1, app_lt, put_at, put_ne, W_ok, W_nx, W_rt, W_bk, W_ct, W_bad, W_badS, List.getElem?_cons_zero, List.getElem?_cons_succ, List.set_cons_zero, List.set_cons_succ, if_true, if_false, Bool.false_eq_true, true_and, and_true, decide_eq_true_eq, decide_eq_false_iff_not, forall_const, not_true_eq_false, not_false_eq_true, false_implies, implies_true, Option.some.injEq, exists_eq_left', exists_eq_left, exists_and_left, fin_nx, fin_rt, fin_bk, fin_ct, fin_ex, Bool.not_eq_true', Bool.not_eq_false', Bool.true_eq_false, reduceCtorEq, D.bl.injEq, D.int.injEq, D.str.injEq, D.ref.injEq, D.tup.injEq, D.fl.injEq, Ob.lst.injEq, Ob.dic.injEq, List.length_map, List.length_append, List.length_cons, List.length_nil, Nat.reduceAdd, Nat.reduceLT, Nat.reduceLeDiff, Nat.zero_lt_succ, false_and, and_false, exists_false, ty_ne, eq_self, Int.cast_ofNat_Int, Int.reduceEq, Int.reduceLT, Int.reduceLE, decide_true, decide_false, ofString_inj, String.reduceEq, Option.map_some, Bool.not_true, Bool.not_false, true_implies]
  have q2 := size_ok (wf := wf) (h := h) k (n + 49 - ts.length) (fun e h => E e h)
  rw [show n + 49 - ts.length + ts.length = n + 49 by omega] at q2
  refine q2.imp ?_
  rintro _ h ⟨rfl, rfl⟩
  rw [W_cons]
  simp only [ex_some, W_var, W_cst, W_bin, W_neg, W_cmp, W_chn, W_and, W_or, W_not, W_ite, W_tup, W_lst, W_dic, W_ix, W_sl, W_fn, W_bi, W_me, W_isi, W_lc, W_a0, W_a1, W_o0, W_o1, W_c0, W_c1, W_iof, W_ir1, W_ir2, W_truR, W_blR, T_and, T_or, T_not, T_var, T_cst, T_cmp, T_chn, T_fn, T_bi, T_isi, S_asg, S_unp, S_set, S_augA, S_augS, S_ex, S_ret, S_retN, S_ife, S_whl, S_fr, S_pas, S_brk, S_cnt, S_rse, b_add, b_sub, b_mul, b_div, b_mod, b_pow, b_str, b_tup, b_ref, c_eq, c_ne, c_in, c_ni, c_lt, c_le, c_gt, c_ge, c_ltS, c_is, c_isN, c_isB, q_int, q_str, q_bl, q_is, q_si, x_tup, x_fl, x_str, x_ref, x_dic, x_dicS, s_tup, s_str, s_fl, s_ref, i_len, i_int, i_intB, i_intS, i_abs, i_str, i_min, i_max, i_sum, i_all, i_any, i_list, i_tuple, n_tup, n_fl, n_ref, n_dic, l_fl, l_ref, e_tup, e_fl, e_ref, it_tup, it_fl, it_str, it_ref, k_app, k_ext, k_pop, k_split, k_part, k_join, m_app, m_ext, m_pop, m_split, m_part, m_join, k_cntT, k_cntS, k_sw, k_up, m_cntT, m_cntS, m_sw, m_up, i_rev, y_str, y_int, y_bl, y_non, y_tup, y_fl, y_ref, y_dic, t_bl, t_int, t_non, t_tup, t_fl, t_ref, g_nm, g_tp, setN0, setN1, wipe0, wipe1, stay0, stay1, at_0, at_1, at_2, at_3, at_4, at_5, at_last, ix_0, ix_1, ix_2, cut_init, new_at, new_at1, app_lt, put_at, put_ne, W_ok, W_nx, W_rt, W_bk, W_ct, W_bad, W_badS, List.getElem?_cons_zero, List.getElem?_cons_succ, List.set_cons_zero, List.set_cons_succ, if_true, if_false, Bool.false_eq_true, true_and, and_true, decide_eq_true_eq, decide_eq_false_iff_not, forall_const, not_true_eq_false, not_false_eq_true, false_implies, implies_true, Option.some.injEq, exists_eq_left', exists_eq_left, exists_and_left, fin_nx, fin_rt, fin_bk, fin_ct, fin_ex, Bool.not_eq_true', Bool.not_eq_false', Bool.true_eq_false, reduceCtorEq, D.bl.injEq, D.int.injEq, D.str.injEq, D.ref.injEq, D.tup.injEq, D.fl.injEq, Ob.lst.injEq, Ob.dic.injEq, List.length_map, List.length_append, List.length_cons, List.length_nil, Nat.reduceAdd, Nat.reduceLT, Nat.reduceLeDiff, Nat.zero_lt_succ, false_and, and_false, exists_false, ty_ne, eq_self, Int.cast_ofNat_Int, Int.reduceEq, Int.reduceLT, Int.reduceLE, decide_true, decide_false, ofString_inj, String.reduceEq, Option.map_some, Bool.not_true, Bool.not_false, true_implies]
  have q3 := signs_ok (wf := wf) (h := h) (E := fun e h => E e h) (n := n + 48 - ts.length) k
  rw [show n + 48 - ts.length + ts.length + 1 = n + 49 by omega] at q3
  refine q3.imp ?_
  rintro _ h ⟨rfl, rfl⟩
  rw [W_cons]
  simp only [ex_some, W_var, W_cst, W_bin, W_neg, W_cmp, W_chn, W_and, W_or, W_not, W_ite, W_tup, W_lst, W_dic, W_ix, W_sl, W_fn, W_bi, W_me, W_isi, W_lc, W_a0, W_a1, W_o0, W_o1, W_c0, W_c1, W_iof, W_ir1, W_ir2, W_truR, W_blR, T_and, T_or, T_not, T_var, T_cst, T_cmp, T_chn, T_fn, T_bi, T_isi, S_asg, S_unp, S_set, S_augA, S_augS, S_ex, S_ret, S_retN, S_ife, S_whl, S_fr, S_pas, S_brk, S_cnt, S_rse, b_add, b_sub, b_mul, b_div, b_mod, b_pow, b_str, b_tup, b_ref, c_eq, c_ne, c_in, c_ni, c_lt, c_le, c_gt, c_ge, c_ltS, c_is, c_isN, c_isB, q_int, q_str, q_bl, q_is, q_si, x_tup, x_fl, x_str, x_ref, x_dic, x_dicS, s_tup, s_str, s_fl, s_ref, i_len, i_int, i_intB, i_intS, i_abs, i_str, i_min, i_max, i_sum, i_all, i_any, i_list, i_tuple, n_tup, n_fl, n_ref, n_dic, l_fl, l_ref, e_tup, e_fl, e_ref, it_tup, it_fl, it_str, it_ref, k_app, k_ext, k_pop, k_split, k_part, k_join, m_app, m_ext, m_pop, m_split, m_part, m_join, k_cntT, k_cntS, k_sw, k_up, m_cntT, m_cntS, m_sw, m_up, i_rev, y_str, y_int, y_bl, y_non, y_tup, y_fl, y_ref, y_dic, t_bl, t_int, t_non, t_tup, t_fl, t_ref, g_nm, g_tp, setN0, setN1, wipe0, wipe1, stay0, stay1, at_0, at_1, at_2, at_3, at_4, at_5, at_last, ix_0, ix_1, ix_2, cut_init, new_at, new_at1, app_lt, put_at, put_ne, W_ok, W_nx, W_rt, W_bk, W_ct, W_bad, W_badS, List.getElem?_cons_zero, List.getElem?_cons_succ, List.set_cons_zero, List.set_cons_succ, if_true, if_false, Bool.false_eq_true, true_and, and_true, decide_eq_true_eq, decide_eq_false_iff_not, forall_const, not_true_eq_false, not_false_eq_true, false_implies, implies_true, Option.some.injEq, exists_eq_left', exists_eq_left, exists_and_left, fin_nx, fin_rt, fin_bk, fin_ct, fin_ex, Bool.not_eq_true', Bool.not_eq_false', Bool.true_eq_false, reduceCtorEq, D.bl.injEq, D.int.injEq, D.str.injEq, D.ref.injEq, D.tup.injEq, D.fl.injEq, Ob.lst.injEq, Ob.dic.injEq, List.length_map, List.length_append, List.length_cons, List.length_nil, Nat.reduceAdd, Nat.reduceLT, Nat.reduceLeDiff, Nat.zero_lt_succ, false_and, and_false, exists_false, ty_ne, eq_self, Int.cast_ofNat_Int, Int.reduceEq, Int.reduceLT, Int.reduceLE, decide_true, decide_false, ofString_inj, String.reduceEq, Option.map_some, Bool.not_true, Bool.not_false, true_implies]
  refine (int_ok (n := n + 48)).imp ?_
  rintro _ h ⟨rfl, rfl⟩
  simp only [ex_some, W_var, W_cst, W_bin, W_neg, W_cmp, W_chn, W_and, W_or, W_not, W_ite, W_tup, W_lst, W_dic, W_ix, W_sl, W_fn, W_bi, W_me, W_isi, W_lc, W_a0, W_a1, W_o0, W_o1, W_c0, W_c1, W_iof, W_ir1, W_ir2, W_truR, W_blR, T_and, T_or, T_not, T_var, T_cst, T_cmp, T_chn, T_fn, T_bi, T_isi, S_asg, S_unp, S_set, S_augA, S_augS, S_ex, S_ret, S_retN, S_ife, S_whl, S_fr, S_pas, S_brk, S_cnt, S_rse, b_add, b_sub, b_mul, b_div, b_mod, b_pow, b_str, b_tup, b_ref, c_eq, c_ne, c_in, c_ni, c_lt, c_le, c_gt, c_ge, c_ltS, c_is, c_isN, c_isB, q_int, q_str, q_bl, q_is, q_si, x_tup, x_fl, x_str, x_ref, x_dic, x_dicS, s_tup, s_str, s_fl, s_ref, i_len, i_int, i_intB, i_intS, i_abs, i_str, i_min, i_max, i_sum, i_all, i_any, i_list, i_tuple, n_tup, n_fl, n_ref, n_dic, l_fl, l_ref, e_tup, e_fl, e_ref, it_tup, it_fl, it_str, it_ref, k_app, k_ext, k_pop, k_split, k_part, k_join, m_app, m_ext, m_pop, m_split, m_part, m_join, k_cntT, k_cntS, k_sw, k_up, m_cntT, m_cntS, m_sw, m_up, i_rev, y_str, y_int, y_bl, y_non, y_tup, y_fl, y_ref, y_dic, t_bl, t_int, t_non, t_tup, t_fl, t_ref, g_nm, g_tp, setN0, setN1, wipe0, wipe1, stay0, stay1, at_0, at_1, at_2, at_3, at_4, at_5, at_last, ix_0, ix_1, ix_2, cut_init, new_at, new_at1, app_lt, put_at, put_ne, W_ok, W_nx, W_rt, W_bk, W_ct, W_bad, W_badS, List.getElem?_cons_zero, List.getElem?_cons_succ, List.set_cons_zero, List.set_cons_succ, if_true, if_false, Bool.false_eq_true, true_and, and_true, decide_eq_true_eq, decide_eq_false_iff_not, forall_const, not_true_eq_false, not_false_eq_true, false_implies, implies_true, Option.some.injEq, exists_eq_left', exists_eq_left, exists_and_left, fin_nx, fin_rt, fin_bk, fin_ct, fin_ex, Bool.not_eq_true', Bool.not_eq_false', Bool.true_eq_false, reduceCtorEq, D.bl.injEq, D.int.injEq, D.str.injEq, D.ref.injEq, D.tup.injEq, D.fl.injEq, Ob.lst.injEq, Ob.dic.injEq, List.length_map, List.length_append, List.length_cons, List.length_nil, Nat.reduceAdd, Nat.reduceLT, Nat.reduceLeDiff, Nat.zero_lt_succ, false_and, and_false, exists_false, ty_ne, eq_self, Int.cast_ofNat_Int, Int.reduceEq, Int.reduceLT, Int.reduceLE, decide_true, decide_false, ofString_inj, String.reduceEq, Option.map_some, Bool.not_true, Bool.not_false, true_implies, W_nil, et]
  rw [W_cons]
  simp only [ex_some, W_var, W_cst, W_bin, W_neg, W_cmp, W_chn, W_and, W_or, W_not, W_ite, W_tup, W_lst, W_dic, W_ix, W_sl, W_fn, W_bi, W_me, W_isi, W_lc, W_a0, W_a1, W_o0, W_o1, W_c0, W_c1, W_iof, W_ir1, W_ir2, W_truR, W_blR, T_and, T_or, T_not, T_var, T_cst, T_cmp, T_chn, T_fn, T_bi, T_isi, S_asg, S_unp, S_set, S_augA, S_augS, S_ex, S_ret, S_retN, S_ife, S_whl, S_fr, S_pas, S_brk, S_cnt, S_rse, b_add, b_sub, b_mul, b_div, b_mod, b_pow, b_str, b_tup, b_ref, c_eq, c_ne, c_in, c_ni, c_lt, c_le, c_gt, c_ge, c_ltS, c_is, c_isN, c_isB, q_int, q_str, q_bl, q_is, q_si, x_tup, x_fl, x_str, x_ref, x_dic, x_dicS, s_tup, s_str, s_fl, s_ref, i_len, i_int, i_intB, i_intS, i_abs, i_str, i_min, i_max, i_sum, i_all, i_any, i_list, i_tuple, n_tup, n_fl, n_ref, n_dic, l_fl, l_ref, e_tup, e_fl, e_ref, it_tup, it_fl, it_str, it_ref, k_app, k_ext, k_pop, k_split, k_part, k_join, m_app, m_ext, m_pop, m_split, m_part, m_join, k_cntT, k_cntS, k_sw, k_up, m_cntT, m_cntS, m_sw, m_up, i_rev, y_str, y_int, y_bl, y_non, y_tup, y_fl, y_ref, y_dic, t_bl, t_int, t_non, t_tup, t_fl, t_ref, g_nm, g_tp, setN0, setN1, wipe0, wipe1, stay0, stay1, at_0, at_1, at_2, at_3, at_4, at_5, at_last, ix_0, ix_1, ix_2, cut_init, new_at, new_at1, app_lt, put_at, put_ne, W_ok, W_nx, W_rt, W_bk, W_ct, W_bad, W_badS, List.getElem?_cons_zero, List.getElem?_cons_succ, List.set_cons_zero, List.set_cons_succ, if_true, if_false, Bool.false_eq_true, true_and, and_true, decide_eq_true_eq, decide_eq_false_iff_not, forall_const, not_true_eq_false, not_false_eq_true, false_implies, implies_true, Option.some.injEq, exists_eq_left', exists_eq_left, exists_and_left, fin_nx, fin_rt, fin_bk, fin_ct, fin_ex, Bool.not_eq_true', Bool.not_eq_false', Bool.true_eq_false, reduceCtorEq, D.bl.injEq, D.int.injEq, D.str.injEq, D.ref.injEq, D.tup.injEq, D.fl.injEq, Ob.lst.injEq, Ob.dic.injEq, List.length_map, List.length_append, List.length_cons, List.length_nil, Nat.reduceAdd, Nat.reduceLT, Nat.reduceLeDiff, Nat.zero_lt_succ, false_and, and_false, exists_false, ty_ne, eq_self, Int.cast_ofNat_Int, Int.reduceEq, Int.reduceLT, Int.reduceLE, decide_true, decide_false, ofString_inj, String.reduceEq, Option.map_some, Bool.not_true, Bool.not_false, true_implies]
  refine (int_ok (n := n + 48)).imp ?_
  rintro _ h ⟨rfl, rfl⟩
  simp only [ex_some, W_var, W_cst, W_bin, W_neg, W_cmp, W_chn, W_and, W_or, W_not, W_ite, W_tup, W_lst, W_dic, W_ix, W_sl, W_fn, W_bi, W_me, W_isi, W_lc, W_a0, W_a1, W_o0, W_o1, W_c0, W_c1, W_iof, W_ir1, W_ir2, W_truR, W_blR, T_and, T_or, T_not, T_var, T_cst, T_cmp, T_chn, T_fn, T_bi, T_isi, S_asg, S_unp, S_set, S_augA, S_augS, S_ex, S_ret, S_retN, S_ife, S_whl, S_fr, S_pas, S_brk, S_cnt, S_rse, b_add, b_sub, b_mul, b_div, b_mod, b_pow, b_str, b_tup, b_ref, c_eq, c_ne, c_in, c_ni, c_lt, c_le, c_gt, c_ge, c_ltS, c_is, c_isN, c_isB, q_int, q_str, q_bl, q_is, q_si, x_tup, x_fl, x_str, x_ref, x_dic, x_dicS, s_tup, s_str, s_fl, s_ref, i_len, i_int, i_intB, i_intS, i_abs, i_str, i_min, i_max, i_sum, i_all, i_any, i_list, i_tuple, n_tup, n_fl, n_ref, n_dic, l_fl, l_ref, e_tup, e_fl, e_ref, it_tup, it_fl, it_str, it_ref, k_app, k_ext, k_pop, k_split, k_part, k_join, m_app, m_ext, m_pop, m_split, m_part, m_join, k_cntT, k_cntS, k_sw, k_up, m_cntT, m_cntS, m_sw, m_up, i_rev, y_str, y_int, y_bl, y_non, y_tup, y_fl, y_ref, y_dic, t_bl, t_int, t_non, t_tup, t_fl, t_ref, g_nm, g_tp, setN0, setN1, wipe0, wipe1, stay0, stay1, at_0, at_1, at_2, at_3, at_4, at_5, at_last, ix_0, ix_1, ix_2, cut_init, new_at, new_at1, app_lt, put_at, put_ne, W_ok, W_nx, W_rt, W_bk, W_ct, W_bad, W_badS, List.getElem?_cons_zero, List.getElem?_cons_succ, List.set_cons_zero, List.set_cons_succ, if_true, if_false, Bool.false_eq_true, true_and, and_true, decide_eq_true_eq, decide_eq_false_iff_not, forall_const, not_true_eq_false, not_false_eq_true, false_implies, implies_true, Option.some.injEq, exists_eq_left', exists_eq_left, exists_and_left, fin_nx, fin_rt, fin_bk, fin_ct, fin_ex, Bool.not_eq_true', Bool.not_eq_false', Bool.true_eq_false, reduceCtorEq, D.bl.injEq, D.int.injEq, D.str.injEq, D.ref.injEq, D.tup.injEq, D.fl.injEq, Ob.lst.injEq, Ob.dic.injEq, List.length_map, List.length_append, List.length_cons, List.length_nil, Nat.reduceAdd, Nat.reduceLT, Nat.reduceLeDiff, Nat.zero_lt_succ, false_and, and_false, exists_false, ty_ne, eq_self, Int.cast_ofNat_Int, Int.reduceEq, Int.reduceLT, Int.reduceLE, decide_true, decide_false, ofString_inj, String.reduceEq, Option.map_some, Bool.not_true, Bool.not_false, true_implies, W_nil, et]
  simp only [c__law_measured_5, c__law_measured_6]
  rw [W_cons]
  simp only [ex_some, W_var, W_cst, W_bin, W_neg, W_cmp, W_chn, W_and, W_or, W_not, W_ite, W_tup, W_lst, W_dic, W_ix, W_sl, W_fn, W_bi, W_me, W_isi, W_lc, W_a0, W_a1, W_o0, W_o1, W_c0, W_c1, W_iof, W_ir1, W_ir2, W_truR, W_blR, T_and, T_or, T_not, T_var, T_cst, T_cmp, T_chn, T_fn, T_bi, T_isi, S_asg, S_unp, S_set, S_augA, S_augS, S_ex, S_ret, S_retN, S_ife, S_whl, S_fr, S_pas, S_brk, S_cnt, S_rse, b_add, b_sub, b_mul, b_div, b_mod, b_pow, b_str, b_tup, b_ref, c_eq, c_ne, c_in, c_ni, c_lt, c_le, c_gt, c_ge, c_ltS, c_is, c_isN, c_isB, q_int, q_str, q_bl, q_is, q_si, x_tup, x_fl, x_str, x_ref, x_dic, x_dicS, s_tup, s_str, s_fl, s_ref, i_len, i_int, i_intB, i_intS, i_abs, i_str, i_min, i_max, i_sum, i_all, i_any, i_list, i_tuple, n_tup, n_fl, n_ref, n_dic, l_fl, l_ref, e_tup, e_fl, e_ref, it_tup, it_fl, it_str, it_ref, k_app, k_ext, k_pop, k_split, k_part, k_join, m_app, m_ext, m_pop, m_split, m_part, m_join, k_cntT, k_cntS, k_sw, k_up, m_cntT, m_cntS, m_sw, m_up, i_rev, y_str, y_int, y_bl, y_non, y_tup, y_fl, y_ref, y_dic, t_bl, t_int, t_non, t_tup, t_fl, t_ref, g_nm, g_tp, setN0, setN1, wipe0, wipe1, stay0, stay1, at_0, at_1, at_2, at_3, at_4, at_5, at_last, ix_0, ix_1, ix_2, cut_init, new_at, new_at1, app_lt, put_at, put_ne, W_ok, W_nx, W_rt, W_bk, W_ct, W_bad, W_badS, List.getElem?_cons_zero, List.getElem?_cons_succ, List.set_cons_zero, List.set_cons_succ, if_true, if_false, Bool.false_eq_true, true_and, and_true, decide_eq_true_eq, decide_eq_false_iff_not, forall_const, not_true_eq_false, not_false_eq_true, false_implies, implies_true, Option.some.injEq, exists_eq_left', exists_eq_left, exists_and_left, fin_nx, fin_rt, fin_bk, fin_ct, fin_ex, Bool.not_eq_true', Bool.not_eq_false', Bool.true_eq_false, reduceCtorEq, D.bl.injEq, D.int.injEq, D.str.injEq, D.ref.injEq, D.tup.injEq, D.fl.injEq, Ob.lst.injEq, Ob.dic.injEq, List.length_map, List.length_append, List.length_cons, List.length_nil, Nat.reduceAdd, Nat.reduceLT, Nat.reduceLeDiff, Nat.zero_lt_succ, false_and, and_false, exists_false, ty_ne, eq_self, Int.cast_ofNat_Int, Int.reduceEq, Int.reduceLT, Int.reduceLE, decide_true, decide_false, ofString_inj, String.reduceEq, Option.map_some, Bool.not_true, Bool.not_false, true_implies, ea]
  refine W_for (fun i σ h' => Eg.Fr [] h h' ∧ ∃ x y z, σ = [some kd, some (.ref t), some (.ref a), some (.int ts.length), some (.int (ts.length - 1)), x, y, z]) ⟨Fr.refl, _, _, _, rfl⟩ ?_ ?_
  · rintro i d σ h' e ⟨ff, x, y, z, rfl⟩
    rw [List.getElem?_map] at e
    cases eb : as[i]? with
    | none => rw [eb] at e; cases e
    | some s =>
      rw [eb] at e
      cases e
      refine ⟨_, rfl, ?_⟩
      rw [W_cons]
      simp only [ex_some, W_var, W_cst, W_bin, W_neg, W_cmp, W_chn, W_and, W_or, W_not, W_ite, W_tup, W_lst, W_dic, W_ix, W_sl, W_fn, W_bi, W_me, W_isi, W_lc, W_a0, W_a1, W_o0, W_o1, W_c0, W_c1, W_iof, W_ir1, W_ir2, W_truR, W_blR, T_and, T_or, T_not, T_var, T_cst, T_cmp, T_chn, T_fn, T_bi, T_isi, S_asg, S_unp, S_set, S_augA, S_augS, S_ex, S_ret, S_retN, S_ife, S_whl, S_fr, S_pas, S_brk, S_cnt, S_rse, b_add, b_sub, b_mul, b_div, b_mod, b_pow, b_str, b_tup, b_ref, c_eq, c_ne, c_in, c_ni, c_lt, c_le, c_gt, c_ge, c_ltS, c_is, c_isN, c_isB, q_int, q_str, q_bl, q_is, q_si, x_tup, x_fl, x_str, x_ref, x_dic, x_dicS, s_tup, s_str, s_fl, s_ref, i_len, i_int, i_intB, i_intS, i_abs, i_str, i_min, i_max, i_sum, i_all, i_any, i_list, i_tuple, n_tup, n_fl, n_ref, n_dic, l_fl, l_ref, e_tup, e_fl, e_ref, it_tup, it_fl, it_str, it_ref, k_app, k_ext, k_pop, k_split, k_part, k_join, m_app, m_ext, m_pop, m_split, m_part, m_join, k_cntT, k_cntS, k_sw, k_up, m_cntT, m_cntS, m_sw, m_up, i_rev, y_str, y_int, y_bl, y_non, y_tup, y_fl, y_ref, y_dic, t_bl, t_int, t_non, t_tup, t_fl, t_ref, g_nm, g_tp, setN0, setN1, wipe0, wipe1, stay0, stay1, at_0, at_1, at_2, at_3, at_4, at_5, at_last, ix_0, ix_1, ix_2, cut_init, new_at, new_at1, app_lt, put_at, put_ne, W_ok, W_nx, W_rt, W_bk, W_ct, W_bad, W_badS, List.getElem?_cons_zero, List.getElem?_cons_succ, List.set_cons_zero, List.set_cons_succ, if_true, if_false, Bool.false_eq_true, true_and, and_true, decide_eq_true_eq, decide_eq_false_iff_not, forall_const, not_true_eq_false, not_false_eq_true, false_implies, implies_true, Option.some.injEq, exists_eq_left', exists_eq_left, exists_and_left, fin_nx, fin_rt, fin_bk, fin_ct, fin_ex, Bool.not_eq_true', Bool.not_eq_false', Bool.true_eq_false, reduceCtorEq, D.bl.injEq, D.int.injEq, D.str.injEq, D.ref.injEq, D.tup.injEq, D.fl.injEq, Ob.lst.injEq, Ob.dic.injEq, List.length_map, List.length_append, List.length_cons, List.length_nil, Nat.reduceAdd, Nat.reduceLT, Nat.reduceLeDiff, Nat.zero_lt_succ, false_and, and_false, exists_false, ty_ne, eq_self, Int.cast_ofNat_Int, Int.reduceEq, Int.reduceLT, Int.reduceLE, decide_true, decide_false, ofString_inj, String.reduceEq, Option.map_some, Bool.not_true, Bool.not_false, true_implies]
      have q4 := count_ok (wf := wf) (h := h') (E := fun e h => E e h) (n := n + 48 - ts.length) (s := s) k hl
      rw [show n + 48 - ts.length + ts.length + 1 = n + 49 by omega] at q4
      refine q4.imp ?_
      rintro _ h' ⟨rfl, rfl⟩
      rw [W_cons]
      simp only [ex_some, W_var, W_cst, W_bin, W_neg, W_cmp, W_chn, W_and, W_or, W_not, W_ite, W_tup, W_lst, W_dic, W_ix, W_sl, W_fn, W_bi, W_me, W_isi, W_lc, W_a0, W_a1, W_o0, W_o1, W_c0, W_c1, W_iof, W_ir1, W_ir2, W_truR, W_blR, T_and, T_or, T_not, T_var, T_cst, T_cmp, T_chn, T_fn, T_bi, T_isi, S_asg, S_unp, S_set, S_augA, S_augS, S_ex, S_ret, S_retN, S_ife, S_whl, S_fr, S_pas, S_brk, S_cnt, S_rse, b_add, b_sub, b_mul, b_div, b_mod, b_pow, b_str, b_tup, b_ref, c_eq, c_ne, c_in, c_ni, c_lt, c_le, c_gt, c_ge, c_ltS, c_is, c_isN, c_isB, q_int, q_str, q_bl, q_is, q_si, x_tup, x_fl, x_str, x_ref, x_dic, x_dicS, s_tup, s_str, s_fl, s_ref, i_len, i_int, i_intB, i_intS, i_abs, i_str, i_min, i_max, i_sum, i_all, i_any, i_list, i_tuple, n_tup, n_fl, n_ref, n_dic, l_fl, l_ref, e_tup, e_fl, e_ref, it_tup, it_fl, it_str, it_ref, k_app, k_ext, k_pop, k_split, k_part, k_join, m_app, m_ext, m_pop, m_split, m_part, m_join, k_cntT, k_cntS, k_sw, k_up, m_cntT, m_cntS, m_sw, m_up, i_rev, y_str, y_int, y_bl, y_non, y_tup, y_fl, y_ref, y_dic, t_bl, t_int, t_non, t_tup, t_fl, t_ref, g_nm, g_tp, setN0, setN1, wipe0, wipe1, stay0, stay1, at_0, at_1, at_2, at_3, at_4, at_5, at_last, ix_0, ix_1, ix_2, cut_init, new_at, new_at1, app_lt, put_at, put_ne, W_ok, W_nx, W_rt, W_bk, W_ct, W_bad, W_badS, List.getElem?_cons_zero, List.getElem?_cons_succ, List.set_cons_zero, List.set_cons_succ, if_true, if_false, Bool.false_eq_true, true_and, and_true, decide_eq_true_eq, decide_eq_false_iff_not, forall_const, not_true_eq_false, not_false_eq_true, false_implies, implies_true, Option.some.injEq, exists_eq_left', exists_eq_left, exists_and_left, fin_nx, fin_rt, fin_bk, fin_ct, fin_ex, Bool.not_eq_true', Bool.not_eq_false', Bool.true_eq_false, reduceCtorEq, D.bl.injEq, D.int.injEq, D.str.injEq, D.ref.injEq, D.tup.injEq, D.fl.injEq, Ob.lst.injEq, Ob.dic.injEq, List.length_map, List.length_append, List.length_cons, List.length_nil, Nat.reduceAdd, Nat.reduceLT, Nat.reduceLeDiff, Nat.zero_lt_succ, false_and, and_false, exists_false, ty_ne, eq_self, Int.cast_ofNat_Int, Int.reduceEq, Int.reduceLT, Int.reduceLE, decide_true, decide_false, ofString_inj, String.reduceEq, Option.map_some, Bool.not_true, Bool.not_false, true_implies]
      refine (int_ok (n := n + 48)).imp ?_
      rintro _ h' ⟨rfl, rfl⟩
      have et' := ff.at0 et
      have ea' := ff.at0 ea
      simp only [ex_some, W_var, W_cst, W_bin, W_neg, W_cmp, W_chn, W_and, W_or, W_not, W_ite, W_tup, W_lst, W_dic, W_ix, W_sl, W_fn, W_bi, W_me, W_isi, W_lc, W_a0, W_a1, W_o0, W_o1, W_c0, W_c1, W_iof, W_ir1, W_ir2, W_truR, W_blR, T_and, T_or, T_not, T_var, T_cst, T_cmp, T_chn, T_fn, T_bi, T_isi, S_asg, S_unp, S_set, S_augA, S_augS, S_ex, S_ret, S_retN, S_ife, S_whl, S_fr, S_pas, S_brk, S_cnt, S_rse, b_add, b_sub, b_mul, b_div, b_mod, b_pow, b_str, b_tup, b_ref, c_eq, c_ne, c_in, c_ni, c_lt, c_le, c_gt, c_ge, c_ltS, c_is, c_isN, c_isB, q_int, q_str, q_bl, q_is, q_si, x_tup, x_fl, x_str, x_ref, x_dic, x_dicS, s_tup, s_str, s_fl, s_ref, i_len, i_int, i_intB, i_intS, i_abs, i_str, i_min, i_max, i_sum, i_all, i_any, i_list, i_tuple, n_tup, n_fl, n_ref, n_dic, l_fl, l_ref, e_tup, e_fl, e_ref, it_tup, it_fl, it_str, it_ref, k_app, k_ext, k_pop, k_split, k_part, k_join, m_app, m_ext, m_pop, m_split, m_part, m_join, k_cntT, k_cntS, k_sw, k_up, m_cntT, m_cntS, m_sw, m_up, i_rev, y_str, y_int, y_bl, y_non, y_tup, y_fl, y_ref, y_dic, t_bl, t_int, t_non, t_tup, t_fl, t_ref, g_nm, g_tp, setN0, setN1, wipe0, wipe1, stay0, stay1, at_0, at_1, at_2, at_3, at_4, at_5, at_last, ix_0, ix_1, ix_2, cut_init, new_at, new_at1, app_lt, put_at, put_ne, W_ok, W_nx, W_rt, W_bk, W_ct, W_bad, W_badS, List.getElem?_cons_zero, List.getElem?_cons_succ, List.set_cons_zero, List.set_cons_succ, if_true, if_false, Bool.false_eq_true, true_and, and_true, decide_eq_true_eq, decide_eq_false_iff_not, forall_const, not_true_eq_false, not_false_eq_true, false_implies, implies_true, Option.some.injEq, exists_eq_left', exists_eq_left, exists_and_left, fin_nx, fin_rt, fin_bk, fin_ct, fin_ex, Bool.not_eq_true', Bool.not_eq_false', Bool.true_eq_false, reduceCtorEq, D.bl.injEq, D.int.injEq, D.str.injEq, D.ref.injEq, D.tup.injEq, D.fl.injEq, Ob.lst.injEq, Ob.dic.injEq, List.length_map, List.length_append, List.length_cons, List.length_nil, Nat.reduceAdd, Nat.reduceLT, Nat.reduceLeDiff, Nat.zero_lt_succ, false_and, and_false, exists_false, ty_ne, eq_self, Int.cast_ofNat_Int, Int.reduceEq, Int.reduceLT, Int.reduceLE, decide_true, decide_false, ofString_inj, String.reduceEq, Option.map_some, Bool.not_true, Bool.not_false, true_implies, W_nil, et']
      refine lc_ex (fun j r h2 => h2 = h' ∧ r.length = (ts.take j).countP fun z => z == s) ⟨rfl, rfl⟩ ?_ ?_
      · rintro j d r h2 e ⟨rfl, lr⟩
        rw [List.getElem?_map] at e
        cases ej : ts[j]? with
        | none => rw [ej] at e; cases e
        | some u =>
          rw [ej] at e
          cases e
          refine ⟨_, rfl, ?_⟩
          simp only [ex_some, W_var, W_cst, W_bin, W_neg, W_cmp, W_chn, W_and, W_or, W_not, W_ite, W_tup, W_lst, W_dic, W_ix, W_sl, W_fn, W_bi, W_me, W_isi, W_lc, W_a0, W_a1, W_o0, W_o1, W_c0, W_c1, W_iof, W_ir1, W_ir2, W_truR, W_blR, T_and, T_or, T_not, T_var, T_cst, T_cmp, T_chn, T_fn, T_bi, T_isi, S_asg, S_unp, S_set, S_augA, S_augS, S_ex, S_ret, S_retN, S_ife, S_whl, S_fr, S_pas, S_brk, S_cnt, S_rse, b_add, b_sub, b_mul, b_div, b_mod, b_pow, b_str, b_tup, b_ref, c_eq, c_ne, c_in, c_ni, c_lt, c_le, c_gt, c_ge, c_ltS, c_is, c_isN, c_isB, q_int, q_str, q_bl, q_is, q_si, x_tup, x_fl, x_str, x_ref, x_dic, x_dicS, s_tup, s_str, s_fl, s_ref, i_len, i_int, i_intB, i_intS, i_abs, i_str, i_min, i_max, i_sum, i_all, i_any, i_list, i_tuple, n_tup, n_fl, n_ref, n_dic, l_fl, l_ref, e_tup, e_fl, e_ref, it_tup, it_fl, it_str, it_ref, k_app, k_ext, k_pop, k_split, k_part, k_join, m_app, m_ext, m_pop, m_split, m_part, m_join, k_cntT, k_cntS, k_sw, k_up, m_cntT, m_cntS, m_sw, m_up, i_rev, y_str, y_int, y_bl, y_non, y_tup, y_fl, y_ref, y_dic, t_bl, t_int, t_non, t_tup, t_fl, t_ref, g_nm, g_tp, setN0, setN1, wipe0, wipe1, stay0, stay1, at_0, at_1, at_2, at_3, at_4, at_5, at_last, ix_0, ix_1, ix_2, cut_init, new_at, new_at1, app_lt, put_at, put_ne, W_ok, W_nx, W_rt, W_bk, W_ct, W_bad, W_badS, List.getElem?_cons_zero, List.getElem?_cons_succ, List.set_cons_zero, List.set_cons_succ, if_true, if_false, Bool.false_eq_true, true_and, and_true, decide_eq_true_eq, decide_eq_false_iff_not, forall_const, not_true_eq_false, not_false_eq_true, false_implies, implies_true, Option.some.injEq, exists_eq_left', exists_eq_left, exists_and_left, fin_nx, fin_rt, fin_bk, fin_ct, fin_ex, Bool.not_eq_true', Bool.not_eq_false', Bool.true_eq_false, reduceCtorEq, D.bl.injEq, D.int.injEq, D.str.injEq, D.ref.injEq, D.tup.injEq, D.fl.injEq, Ob.lst.injEq, Ob.dic.injEq, List.length_map, List.length_append, List.length_cons, List.length_nil, Nat.reduceAdd, Nat.reduceLT, Nat.reduceLeDiff, Nat.zero_lt_succ, false_and, and_false, exists_false, ty_ne, eq_self, Int.cast_ofNat_Int, Int.reduceEq, Int.reduceLT, Int.reduceLE, decide_true, decide_false, ofString_inj, String.reduceEq, Option.map_some, Bool.not_true, Bool.not_false, true_implies, et']
          rw [List.take_add_one, ej]
          by_cases hu : u = s
          · subst hu
            simp [lr]
          · simp [lr, hu]
      · rintro r h2 ⟨rfl, lr⟩
        rw [List.length_map, List.take_length] at lr
        have : (ts.countP fun z => z == s) ≤ ts.length := List.countP_le_length
        simp only [ex_some, W_var, W_cst, W_bin, W_neg, W_cmp, W_chn, W_and, W_or, W_not, W_ite, W_tup, W_lst, W_dic, W_ix, W_sl, W_fn, W_bi, W_me, W_isi, W_lc, W_a0, W_a1, W_o0, W_o1, W_c0, W_c1, W_iof, W_ir1, W_ir2, W_truR, W_blR, T_and, T_or, T_not, T_var, T_cst, T_cmp, T_chn, T_fn, T_bi, T_isi, S_asg, S_unp, S_set, S_augA, S_augS, S_ex, S_ret, S_retN, S_ife, S_whl, S_fr, S_pas, S_brk, S_cnt, S_rse, b_add, b_sub, b_mul, b_div, b_mod, b_pow, b_str, b_tup, b_ref, c_eq, c_ne, c_in, c_ni, c_lt, c_le, c_gt, c_ge, c_ltS, c_is, c_isN, c_isB, q_int, q_str, q_bl, q_is, q_si, x_tup, x_fl, x_str, x_ref, x_dic, x_dicS, s_tup, s_str, s_fl, s_ref, i_len, i_int, i_intB, i_intS, i_abs, i_str, i_min, i_max, i_sum, i_all, i_any, i_list, i_tuple, n_tup, n_fl, n_ref, n_dic, l_fl, l_ref, e_tup, e_fl, e_ref, it_tup, it_fl, it_str, it_ref, k_app, k_ext, k_pop, k_split, k_part, k_join, m_app, m_ext, m_pop, m_split, m_part, m_join, k_cntT, k_cntS, k_sw, k_up, m_cntT, m_cntS, m_sw, m_up, i_rev, y_str, y_int, y_bl, y_non, y_tup, y_fl, y_ref, y_dic, t_bl, t_int, t_non, t_tup, t_fl, t_ref, g_nm, g_tp, setN0, setN1, wipe0, wipe1, stay0, stay1, at_0, at_1, at_2, at_3, at_4, at_5, at_last, ix_0, ix_1, ix_2, cut_init, new_at, new_at1, app_lt, put_at, put_ne, W_ok, W_nx, W_rt, W_bk, W_ct, W_bad, W_badS, List.getElem?_cons_zero, List.getElem?_cons_succ, List.set_cons_zero, List.set_cons_succ, if_true, if_false, Bool.false_eq_true, true_and, and_true, decide_eq_true_eq, decide_eq_false_iff_not, forall_const, not_true_eq_false, not_false_eq_true, false_implies, implies_true, Option.some.injEq, exists_eq_left', exists_eq_left, exists_and_left, fin_nx, fin_rt, fin_bk, fin_ct, fin_ex, Bool.not_eq_true', Bool.not_eq_false', Bool.true_eq_false, reduceCtorEq, D.bl.injEq, D.int.injEq, D.str.injEq, D.ref.injEq, D.tup.injEq, D.fl.injEq, Ob.lst.injEq, Ob.dic.injEq, List.length_map, List.length_append, List.length_cons, List.length_nil, Nat.reduceAdd, Nat.reduceLT, Nat.reduceLeDiff, Nat.zero_lt_succ, false_and, and_false, exists_false, ty_ne, eq_self, Int.cast_ofNat_Int, Int.reduceEq, Int.reduceLT, Int.reduceLE, decide_true, decide_false, ofString_inj, String.reduceEq, Option.map_some, Bool.not_true, Bool.not_false, true_implies, lr]
        refine ⟨lim_of (by omega), ?_⟩
        exact ⟨(Fr.new (ps := [])).at0 ea', ff.trans Fr.new, _, _, _, rfl⟩
  · rintro σ h' ⟨ff, x, y, z, rfl⟩
    dsimp only
    simp only [ex_some, W_var, W_cst, W_bin, W_neg, W_cmp, W_chn, W_and, W_or, W_not, W_ite, W_tup, W_lst, W_dic, W_ix, W_sl, W_fn, W_bi, W_me, W_isi, W_lc, W_a0, W_a1, W_o0, W_o1, W_c0, W_c1, W_iof, W_ir1, W_ir2, W_truR, W_blR, T_and, T_or, T_not, T_var, T_cst, T_cmp, T_chn, T_fn, T_bi, T_isi, S_asg, S_unp, S_set, S_augA, S_augS, S_ex, S_ret, S_retN, S_ife, S_whl, S_fr, S_pas, S_brk, S_cnt, S_rse, b_add, b_sub, b_mul, b_div, b_mod, b_pow, b_str, b_tup, b_ref, c_eq, c_ne, c_in, c_ni, c_lt, c_le, c_gt, c_ge, c_ltS, c_is, c_isN, c_isB, q_int, q_str, q_bl, q_is, q_si, x_tup, x_fl, x_str, x_ref, x_dic, x_dicS, s_tup, s_str, s_fl, s_ref, i_len, i_int, i_intB, i_intS, i_abs, i_str, i_min, i_max, i_sum, i_all, i_any, i_list, i_tuple, n_tup, n_fl, n_ref, n_dic, l_fl, l_ref, e_tup, e_fl, e_ref, it_tup, it_fl, it_str, it_ref, k_app, k_ext, k_pop, k_split, k_part, k_join, m_app, m_ext, m_pop, m_split, m_part, m_join, k_cntT, k_cntS, k_sw, k_up, m_cntT, m_cntS, m_sw, m_up, i_rev, y_str, y_int, y_bl, y_non, y_tup, y_fl, y_ref, y_dic, t_bl, t_int, t_non, t_tup, t_fl, t_ref, g_nm, g_tp, setN0, setN1, wipe0, wipe1, stay0, stay1, at_0, at_1, at_2, at_3, at_4, at_5, at_last, ix_0, ix_1, ix_2, cut_init, new_at, new_at1, app_lt, put_at, put_ne, W_ok, W_nx, W_rt, W_bk, W_ct, W_bad, W_badS, List.getElem?_cons_zero, List.getElem?_cons_succ, List.set_cons_zero, List.set_cons_succ, if_true, if_false, Bool.false_eq_true, true_and, and_true, decide_eq_true_eq, decide_eq_false_iff_not, forall_const, not_true_eq_false, not_false_eq_true, false_implies, implies_true, Option.some.injEq, exists_eq_left', exists_eq_left, exists_and_left, fin_nx, fin_rt, fin_bk, fin_ct, fin_ex, Bool.not_eq_true', Bool.not_eq_false', Bool.true_eq_false, reduceCtorEq, D.bl.injEq, D.int.injEq, D.str.injEq, D.ref.injEq, D.tup.injEq, D.fl.injEq, Ob.lst.injEq, Ob.dic.injEq, List.length_map, List.length_append, List.length_cons, List.length_nil, Nat.reduceAdd, Nat.reduceLT, Nat.reduceLeDiff, Nat.zero_lt_succ, false_and, and_false, exists_false, ty_ne, eq_self, Int.cast_ofNat_Int, Int.reduceEq, Int.reduceLT, Int.reduceLE, decide_true, decide_false, ofString_inj, String.reduceEq, Option.map_some, Bool.not_true, Bool.not_false, true_implies, W_cons, W_nil]
    exact ff
end
/-! ### apart -/
section
variable {wf n : Nat} {E : Nat → Hd → Prop} {h : Hd}
theorem part_k {b : Str} {k : Int} (hb : Bs b 8) : Txt.partition (txA b k) (Str.ofString ".") = if k = 0 then (b, Str.empty, Str.empty) else (b, Str.ofString ".", Str.ofString (toString k)) := by
  have ey : TL.tl (Str.ofString ".") = 46 :: [] := by decide
  unfold txA
  split
  · exact TL.partition_none ey hb.nd
  · exact TL.partition_app ey hb.nd
theorem num_ne {k : Int} (h0 : 0 ≤ k) (h1 : k ≤ 999999) : Str.ofString (toString k) ≠ Str.ofString "" := by
  intro e
  have := PySem.W.KIN.num_reads h0 (by omega : k < 10 ^ 10)
  rw [e, show PySem.intText? (Str.ofString "") = Option.none from by decide +kernel] at this
  cases this
theorem base_of_ok {b : Str} {k : Int} (hb : Bs b 8) (h0 : 0 ≤ k) (h1 : k ≤ 999999) : (callN P wf (n + 1) 4 [.str (txA b k)] h).W E (fun d h' => h' = h ∧ d = .str b) := by
  refine W_call P_base_of rfl ?_
  simp only [c_base_of, startD, List.map_cons, List.map_nil, List.length_cons, List.length_nil, List.replicate, List.cons_append, List.nil_append, Nat.reduceSub, Nat.reduceAdd]
  simp only [ex_some, W_var, W_cst, W_bin, W_neg, W_cmp, W_chn, W_and, W_or, W_not, W_ite, W_tup, W_lst, W_dic, W_ix, W_sl, W_fn, W_bi, W_me, W_isi, W_lc, W_a0, W_a1, W_o0, W_o1, W_c0, W_c1, W_iof, W_ir1, W_ir2, W_truR, W_blR, T_and, T_or, T_not, T_var, T_cst, T_cmp, T_chn, T_fn, T_bi, T_isi, S_asg, S_unp, S_set, S_augA, S_augS, S_ex, S_ret, S_retN, S_ife, S_whl, S_fr, S_pas, S_brk, S_cnt, S_rse, b_add, b_sub, b_mul, b_div, b_mod, b_pow, b_str, b_tup, b_ref, c_eq, c_ne, c_in, c_ni, c_lt, c_le, c_gt, c_ge, c_ltS, c_is, c_isN, c_isB, q_int, q_str, q_bl, q_is, q_si, x_tup, x_fl, x_str, x_ref, x_dic, x_dicS, s_tup, s_str, s_fl, s_ref, i_len, i_int, i_intB, i_intS, i_abs, i_str, i_min, i_max, i_sum, i_all, i_any, i_list, i_tuple, n_tup, n_fl, n_ref, n_dic, l_fl, l_ref, e_tup, e_fl, e_ref, it_tup, it_fl, it_str, it_ref, k_app, k_ext, k_pop, k_split, k_part, k_join, m_app, m_ext, m_pop, m_split, m_part, m_join, k_cntT, k_cntS, k_sw, k_up, m_cntT, m_cntS, m_sw, m_up, i_rev, y_str, y_int, y_bl, y_non, y_tup, y_fl, y_ref, y_dic, t_bl, t_int, t_non, t_tup, t_fl, t_ref, g_nm, g_tp, setN0, setN1, wipe0, wipe1, stay0, stay1, at_0, at_1, at_2, at_3, at_4, at_5, at_last, ix_0, ix_1, ix_2, cut_init, new_at, new_at1, app_lt, put_at, put_ne, W_ok, W_nx, W_rt, W_bk, W_ct, W_bad, W_badS, List.getElem?_cons_zero, List.getElem?_cons_succ, List.set_cons_zero, List.set_cons_succ, if_true, if_false, Bool.false_eq_true, true_and, and_true, decide_eq_true_eq, decide_eq_false_iff_not, forall_const, not_true_eq_false, not_false_eq_true, false_implies, implies_true, Option.some.injEq, exists_eq_left', exists_eq_left, exists_and_left, fin_nx, fin_rt, fin_bk, fin_ct, fin_ex, Bool.not_eq_true', Bool.not_eq_false', Bool.true_eq_false, reduceCtorEq, D.bl.injEq, D.int.injEq, D.str.injEq, D.ref.injEq, D.tup.injEq, D.fl.injEq, Ob.lst.injEq, Ob.dic.injEq, List.length_map, List.length_append, List.length_cons, List.length_nil, Nat.reduceAdd, Nat.reduceLT, Nat.reduceLeDiff, Nat.zero_lt_succ, false_and, and_false, exists_false, ty_ne, eq_self, Int.cast_ofNat_Int, Int.reduceEq, Int.reduceLT, Int.reduceLE, decide_true, decide_false, ofString_inj, String.reduceEq, Option.map_some, Bool.not_true, Bool.not_false, true_implies, W_cons, W_nil]
  have tx := (txA_tx hb h0 h1).le
  rw [part_k hb]
  refine ⟨⟨by decide, by show _ ≤ 1000000; omega⟩, ?_⟩
  split <;> rfl
theorem number_ok {b : Str} {k : Int} (hb : Bs b 8) (h0 : 0 ≤ k) (h1 : k ≤ 999999) : (callN P wf (n + 1) 5 [.str (txA b k)] h).W E (fun d h' => h' = h ∧ d = .int k) := by
  refine W_call P_atom_number rfl ?_
  simp only [c_atom_number, c_atom_number_1, c_atom_number_2, startD, List.map_cons, List.map_nil, List.length_cons, List.length_nil, List.replicate, List.cons_append, List.nil_append, Nat.reduceSub, Nat.reduceAdd]
  have tx := (txA_tx hb h0 h1).le
  rw [W_cons]
  simp only [ex_some, W_var, W_cst, W_bin, W_neg, W_cmp, W_chn, W_and, W_or, W_not, W_ite, W_tup, W_lst, W_dic, W_ix, W_sl, W_fn, W_bi, W_me, W_isi, W_lc, W_a0, W_a1, W_o0, W_o1, W_c0, W_c1, W_iof, W_ir1, W_ir2, W_truR, W_blR, T_and, T_or, T_not, T_var, T_cst, T_cmp, T_chn, T_fn, T_bi, T_isi, S_asg, S_unp, S_set, S_augA, S_augS, S_ex, S_ret, S_retN, S_ife, S_whl, S_fr, S_pas, S_brk, S_cnt, S_rse, b_add, b_sub, b_mul, b_div, b_mod, b_pow, b_str, b_tup, b_ref, c_eq, c_ne, c_in, c_ni, c_lt, c_le, c_gt, c_ge, c_ltS, c_is, c_isN, c_isB, q_int, q_str, q_bl, q_is, q_si, x_tup, x_fl, x_str, x_ref, x_dic, x_dicS, s_tup, s_str, s_fl, s_ref, i_len, i_int, i_intB, i_intS, i_abs, i_str, i_min, i_max, i_sum, i_all, i_any, i_list, i_tuple, n_tup, n_fl, n_ref, n_dic, l_fl, l_ref, e_tup, e_fl, e_ref, it_tup, it_fl, it_str, it_ref, k_app, k_ext, k_pop, k_split, k_part, k_join, m_app, m_ext, m_pop, m_split, m_part, m_join, k_cntT, k_cntS, k_sw, k_up, m_cntT, m_cntS, m_sw, m_up, i_rev, y_str, y_int, y_bl, y_non, y_tup, y_fl, y_ref, y_dic, t_bl, t_int, t_non, t_tup, t_fl, t_ref, g_nm, g_tp, setN0, setN1, wipe0, wipe1, stay0, stay1, at_0, at_1, at_2, at_3, at_4, at_5, at_last, ix_0, ix_1, ix_2, cut_init, new_at, new_at1, app_lt, put_at, put_ne, W_ok, W_nx, W_rt, W_bk, W_ct, W_bad, W_badS, List.getElem?_cons_zero, List.getElem?_cons_succ, List.set_cons_zero, List.set_cons_succ, if_true, if_false, Bool.false_eq_true, true_and, and_true, decide_eq_true_eq, decide_eq_false_iff_not, forall_const, not_true_eq_false, not_false_eq_true, false_implies, implies_true, Option.some.injEq, exists_eq_left', exists_eq_left, exists_and_left, fin_nx, fin_rt, fin_bk, fin_ct, fin_ex, Bool.not_eq_true', Bool.not_eq_false', Bool.true_eq_false, reduceCtorEq, D.bl.injEq, D.int.injEq, D.str.injEq, D.ref.injEq, D.tup.injEq, D.fl.injEq, Ob.lst.injEq, Ob.dic.injEq, List.length_map, List.length_append, List.length_cons, List.length_nil, Nat.reduceAdd, Nat.reduceLT, Nat.reduceLeDiff, Nat.zero_lt_succ, false_and, and_false, exists_false, ty_ne, eq_self, Int.cast_ofNat_Int, Int.reduceEq, Int.reduceLT, Int.reduceLE, decide_true, decide_false, ofString_inj, String.reduceEq, Option.map_some, Bool.not_true, Bool.not_false, true_implies]
  refine ⟨⟨by decide, by show _ ≤ 1000000; omega⟩, ?_⟩
  rw [part_k hb]
  by_cases hk : k = 0
  · subst hk
    simp only [if_true, ex_some, W_var, W_cst, W_bin, W_neg, W_cmp, W_chn, W_and, W_or, W_not, W_ite, W_tup, W_lst, W_dic, W_ix, W_sl, W_fn, W_bi, W_me, W_isi, W_lc, W_a0, W_a1, W_o0, W_o1, W_c0, W_c1, W_iof, W_ir1, W_ir2, W_truR, W_blR, T_and, T_or, T_not, T_var, T_cst, T_cmp, T_chn, T_fn, T_bi, T_isi, S_asg, S_unp, S_set, S_augA, S_augS, S_ex, S_ret, S_retN, S_ife, S_whl, S_fr, S_pas, S_brk, S_cnt, S_rse, b_add, b_sub, b_mul, b_div, b_mod, b_pow, b_str, b_tup, b_ref, c_eq, c_ne, c_in, c_ni, c_lt, c_le, c_gt, c_ge, c_ltS, c_is, c_isN, c_isB, q_int, q_str, q_bl, q_is, q_si, x_tup, x_fl, x_str, x_ref, x_dic, x_dicS, s_tup, s_str, s_fl, s_ref, i_len, i_int, i_intB, i_intS, i_abs, i_str, i_min, i_max, i_sum, i_all, i_any, i_list, i_tuple, n_tup, n_fl, n_ref, n_dic, l_fl, l_ref, e_tup, e_fl, e_ref, it_tup, it_fl, it_str, it_ref, k_app, k_ext, k_pop, k_split, k_part, k_join, m_app, m_ext, m_pop, m_split, m_part, m_join, k_cntT, k_cntS, k_sw, k_up, m_cntT, m_cntS, m_sw, m_up, i_rev, y_str, y_int, y_bl, y_non, y_tup, y_fl, y_ref, y_dic, t_bl, t_int, t_non, t_tup, t_fl, t_ref, g_nm, g_tp, setN0, setN1, wipe0, wipe1, stay0, stay1, at_0, at_1, at_2, at_3, at_4, at_5, at_last, ix_0, ix_1, ix_2, cut_init, new_at, new_at1, app_lt, put_at, put_ne, W_ok, W_nx, W_rt, W_bk, W_ct, W_bad, W_badS, List.getElem?_cons_zero, List.getElem?_cons_succ, List.set_cons_zero, List.set_cons_succ, if_true, if_false, Bool.false_eq_true, true_and, and_true, decide_eq_true_eq, decide_eq_false_iff_not, forall_const, not_true_eq_false, not_false_eq_true, false_implies, implies_true, Option.some.injEq, exists_eq_left', exists_eq_left, exists_and_left, fin_nx, fin_rt, fin_bk, fin_ct, fin_ex, Bool.not_eq_true', Bool.not_eq_false', Bool.true_eq_false, reduceCtorEq, D.bl.injEq, D.int.injEq, D.str.injEq, D.ref.injEq, D.tup.injEq, D.fl.injEq, Ob.lst.injEq, Ob.dic.injEq, List.length_map, List.length_append, List.length_cons, List.length_nil, Nat.reduceAdd, Nat.reduceLT, Nat.reduceLeDiff, Nat.zero_lt_succ, false_and, and_false, exists_false, ty_ne, eq_self, Int.cast_ofNat_Int, Int.reduceEq, Int.reduceLT, Int.reduceLE, decide_true, decide_false, ofString_inj, String.reduceEq, Option.map_some, Bool.not_true, Bool.not_false, true_implies, W_cons, W_nil, show Str.empty = Str.ofString "" from by decide]
  · have ir := PySem.W.KIN.num_reads h0 (by omega : k < 10 ^ 10)
    have tn := (Tx.numI (i := k) (k := 6) (by omega) h0 (by omega)).le
    simp only [if_neg hk, ex_some, W_var, W_cst, W_bin, W_neg, W_cmp, W_chn, W_and, W_or, W_not, W_ite, W_tup, W_lst, W_dic, W_ix, W_sl, W_fn, W_bi, W_me, W_isi, W_lc, W_a0, W_a1, W_o0, W_o1, W_c0, W_c1, W_iof, W_ir1, W_ir2, W_truR, W_blR, T_and, T_or, T_not, T_var, T_cst, T_cmp, T_chn, T_fn, T_bi, T_isi, S_asg, S_unp, S_set, S_augA, S_augS, S_ex, S_ret, S_retN, S_ife, S_whl, S_fr, S_pas, S_brk, S_cnt, S_rse, b_add, b_sub, b_mul, b_div, b_mod, b_pow, b_str, b_tup, b_ref, c_eq, c_ne, c_in, c_ni, c_lt, c_le, c_gt, c_ge, c_ltS, c_is, c_isN, c_isB, q_int, q_str, q_bl, q_is, q_si, x_tup, x_fl, x_str, x_ref, x_dic, x_dicS, s_tup, s_str, s_fl, s_ref, i_len, i_int, i_intB, i_intS, i_abs, i_str, i_min, i_max, i_sum, i_all, i_any, i_list, i_tuple, n_tup, n_fl, n_ref, n_dic, l_fl, l_ref, e_tup, e_fl, e_ref, it_tup, it_fl, it_str, it_ref, k_app, k_ext, k_pop, k_split, k_part, k_join, m_app, m_ext, m_pop, m_split, m_part, m_join, k_cntT, k_cntS, k_sw, k_up, m_cntT, m_cntS, m_sw, m_up, i_rev, y_str, y_int, y_bl, y_non, y_tup, y_fl, y_ref, y_dic, t_bl, t_int, t_non, t_tup, t_fl, t_ref, g_nm, g_tp, setN0, setN1, wipe0, wipe1, stay0, stay1, at_0, at_1, at_2, at_3, at_4, at_5, at_last, ix_0, ix_1, ix_2, cut_init, new_at, new_at1, app_lt, put_at, put_ne, W_ok, W_nx, W_rt, W_bk, W_ct, W_bad, W_badS, List.getElem?_cons_zero, List.getElem?_cons_succ, List.set_cons_zero, List.set_cons_succ, if_true, if_false, Bool.false_eq_true, true_and, and_true, decide_eq_true_eq, decide_eq_false_iff_not, forall_const, not_true_eq_false, not_false_eq_true, false_implies, implies_true, Option.some.injEq, exists_eq_left', exists_eq_left, exists_and_left, fin_nx, fin_rt, fin_bk, fin_ct, fin_ex, Bool.not_eq_true', Bool.not_eq_false', Bool.true_eq_false, reduceCtorEq, D.bl.injEq, D.int.injEq, D.str.injEq, D.ref.injEq, D.tup.injEq, D.fl.injEq, Ob.lst.injEq, Ob.dic.injEq, List.length_map, List.length_append, List.length_cons, List.length_nil, Nat.reduceAdd, Nat.reduceLT, Nat.reduceLeDiff, Nat.zero_lt_succ, false_and, and_false, exists_false, ty_ne, eq_self, Int.cast_ofNat_Int, Int.reduceEq, Int.reduceLT, Int.reduceLE, decide_true, decide_false, ofString_inj, String.reduceEq, Option.map_some, Bool.not_true, Bool.not_false, true_implies, W_cons, W_nil, num_ne h0 h1, i_intS ir]
    omega
theorem apart_ok {l : List D} {q : Nat} (e : h[q]? = some (.lst l)) (hl : ∀ d ∈ l, Atm d) : (callN P wf (n + 3) 18 [.ref q] h).W E (fun d h' => d = .bl true ∧ h' = h) := by
  refine W_call P__law_apart rfl ?_
  simp only [c__law_apart, c__law_apart_1, startD, List.map_cons, List.map_nil, List.length_cons, List.length_nil, List.replicate, List.cons_append, List.nil_append, Nat.reduceSub, Nat.reduceAdd]
  rw [W_cons]
  simp only [ex_some, W_var, W_cst, W_bin, W_neg, W_cmp, W_chn, W_and, W_or, W_not, W_ite, W_tup, W_lst, W_dic, W_ix, W_sl, W_fn, W_bi, W_me, W_isi, W_lc, W_a0, W_a1, W_o0, W_o1, W_c0, W_c1, W_iof, W_ir1, W_ir2, W_truR, W_blR, T_and, T_or, T_not, T_var, T_cst, T_cmp, T_chn, T_fn, T_bi, T_isi, S_asg, S_unp, S_set, S_augA, S_augS, S_ex, S_ret, S_retN, S_ife, S_whl, S_fr, S_pas, S_brk, S_cnt, S_rse, b_add, b_sub, b_mul, b_div, b_mod, b_pow, b_str, b_tup, b_ref, c_eq, c_ne, c_in, c_ni, c_lt, c_le, c_gt, c_ge, c_ltS, c_is, c_isN, c_isB, q_int, q_str, q_bl, q_is, q_si, x_tup, x_fl, x_str, x_ref, x_dic, x_dicS, s_tup, s_str, s_fl, s_ref, i_len, i_int, i_intB, i_intS, i_abs, i_str, i_min, i_max, i_sum, i_all, i_any, i_list, i_tuple, n_tup, n_fl, n_ref, n_dic, l_fl, l_ref, e_tup, e_fl, e_ref, it_tup, it_fl, it_str, it_ref, k_app, k_ext, k_pop, k_split, k_part, k_join, m_app, m_ext, m_pop, m_split, m_part, m_join, k_cntT, k_cntS, k_sw, k_up, m_cntT, m_cntS, m_sw, m_up, i_rev, y_str, y_int, y_bl, y_non, y_tup, y_fl, y_ref, y_dic, t_bl, t_int, t_non, t_tup, t_fl, t_ref, g_nm, g_tp, setN0, setN1, wipe0, wipe1, stay0, stay1, at_0, at_1, at_2, at_3, at_4, at_5, at_last, ix_0, ix_1, ix_2, cut_init, new_at, new_at1, app_lt, put_at, put_ne, W_ok, W_nx, W_rt, W_bk, W_ct, W_bad, W_badS, List.getElem?_cons_zero, List.getElem?_cons_succ, List.set_cons_zero, List.set_cons_succ, if_true, if_false, Bool.false_eq_true, true_and, and_true, decide_eq_true_eq, decide_eq_false_iff_not, forall_const, not_true_eq_false, not_false_eq_true, false_implies, implies_true, Option.some.injEq, exists_eq_left', exists_eq_left, exists_and_left, fin_nx, fin_rt, fin_bk, fin_ct, fin_ex, Bool.not_eq_true', Bool.not_eq_false', Bool.true_eq_false, reduceCtorEq, D.bl.injEq, D.int.injEq, D.str.injEq, D.ref.injEq, D.tup.injEq, D.fl.injEq, Ob.lst.injEq, Ob.dic.injEq, List.length_map, List.length_append, List.length_cons, List.length_nil, Nat.reduceAdd, Nat.reduceLT, Nat.reduceLeDiff, Nat.zero_lt_succ, false_and, and_false, exists_false, ty_ne, eq_self, Int.cast_ofNat_Int, Int.reduceEq, Int.reduceLT, Int.reduceLE, decide_true, decide_false, ofString_inj, String.reduceEq, Option.map_some, Bool.not_true, Bool.not_false, true_implies, e]
  refine W_for (fun i σ h' => h' = h ∧ ∃ a b c d e, σ = [some (.ref q), a, b, c, d, e]) ⟨rfl, _, _, _, _, _, rfl⟩ ?_ ?_
  · rintro i d σ h' ei ⟨rfl, a, b, c, d', e', rfl⟩
    obtain ⟨b, k, rfl, hb, k0, k1⟩ := hl d (List.mem_of_getElem? ei)
    refine ⟨_, rfl, ?_⟩
    rw [W_cons]
    simp only [ex_some, W_var, W_cst, W_bin, W_neg, W_cmp, W_chn, W_and, W_or, W_not, W_ite, W_tup, W_lst, W_dic, W_ix, W_sl, W_fn, W_bi, W_me, W_isi, W_lc, W_a0, W_a1, W_o0, W_o1, W_c0, W_c1, W_iof, W_ir1, W_ir2, W_truR, W_blR, T_and, T_or, T_not, T_var, T_cst, T_cmp, T_chn, T_fn, T_bi, T_isi, S_asg, S_unp, S_set, S_augA, S_augS, S_ex, S_ret, S_retN, S_ife, S_whl, S_fr, S_pas, S_brk, S_cnt, S_rse, b_add, b_sub, b_mul, b_div, b_mod, b_pow, b_str, b_tup, b_ref, c_eq, c_ne, c_in, c_ni, c_lt, c_le, c_gt, c_ge, c_ltS, c_is, c_isN, c_isB, q_int, q_str, q_bl, q_is, q_si, x_tup, x_fl, x_str, x_ref, x_dic, x_dicS, s_tup, s_str, s_fl, s_ref, i_len, i_int, i_intB, i_intS, i_abs, i_str, i_min, i_max, i_sum, i_all, i_any, i_list, i_tuple, n_tup, n_fl, n_ref, n_dic, l_fl, l_ref, e_tup, e_fl, e_ref, it_tup, it_fl, it_str, it_ref, k_app, k_ext, k_pop, k_split, k_part, k_join, m_app, m_ext, m_pop, m_split, m_part, m_join, k_cntT, k_cntS, k_sw, k_up, m_cntT, m_cntS, m_sw, m_up, i_rev, y_str, y_int, y_bl, y_non, y_tup, y_fl, y_ref, y_dic, t_bl, t_int, t_non, t_tup, t_fl, t_ref, g_nm, g_tp, setN0, setN1, wipe0, wipe1, stay0, stay1, at_0, at_1, at_2, at_3, at_4, at_5, at_last, ix_0, ix_1, ix_2, cut_init, new_at, new_at1, app_lt, put_at, put_ne, W_ok, W_nx, W_rt, W_bk, W_ct, W_bad, W_badS, List.getElem?_cons_zero, List.getElem?_cons_succ, List.set_cons_zero, List.set_cons_succ, if_true, if_false, Bool.false_eq_true, true_and, and_true, decide_eq_true_eq, decide_eq_false_iff_not, forall_const, not_true_eq_false, not_false_eq_true, false_implies, implies_true, Option.some.injEq, exists_eq_left', exists_eq_left, exists_and_left, fin_nx, fin_rt, fin_bk, fin_ct, fin_ex, Bool.not_eq_true', Bool.not_eq_false', Bool.true_eq_false, reduceCtorEq, D.bl.injEq, D.int.injEq, D.str.injEq, D.ref.injEq, D.tup.injEq, D.fl.injEq, Ob.lst.injEq, Ob.dic.injEq, List.length_map, List.length_append, List.length_cons, List.length_nil, Nat.reduceAdd, Nat.reduceLT, Nat.reduceLeDiff, Nat.zero_lt_succ, false_and, and_false, exists_false, ty_ne, eq_self, Int.cast_ofNat_Int, Int.reduceEq, Int.reduceLT, Int.reduceLE, decide_true, decide_false, ofString_inj, String.reduceEq, Option.map_some, Bool.not_true, Bool.not_false, true_implies]
    refine (base_of_ok (n := n + 1) hb k0 k1).imp ?_
    rintro _ h ⟨rfl, rfl⟩
    rw [W_cons]
    simp only [ex_some, W_var, W_cst, W_bin, W_neg, W_cmp, W_chn, W_and, W_or, W_not, W_ite, W_tup, W_lst, W_dic, W_ix, W_sl, W_fn, W_bi, W_me, W_isi, W_lc, W_a0, W_a1, W_o0, W_o1, W_c0, W_c1, W_iof, W_ir1, W_ir2, W_truR, W_blR, T_and, T_or, T_not, T_var, T_cst, T_cmp, T_chn, T_fn, T_bi, T_isi, S_asg, S_unp, S_set, S_augA, S_augS, S_ex, S_ret, S_retN, S_ife, S_whl, S_fr, S_pas, S_brk, S_cnt, S_rse, b_add, b_sub, b_mul, b_div, b_mod, b_pow, b_str, b_tup, b_ref, c_eq, c_ne, c_in, c_ni, c_lt, c_le, c_gt, c_ge, c_ltS, c_is, c_isN, c_isB, q_int, q_str, q_bl, q_is, q_si, x_tup, x_fl, x_str, x_ref, x_dic, x_dicS, s_tup, s_str, s_fl, s_ref, i_len, i_int, i_intB, i_intS, i_abs, i_str, i_min, i_max, i_sum, i_all, i_any, i_list, i_tuple, n_tup, n_fl, n_ref, n_dic, l_fl, l_ref, e_tup, e_fl, e_ref, it_tup, it_fl, it_str, it_ref, k_app, k_ext, k_pop, k_split, k_part, k_join, m_app, m_ext, m_pop, m_split, m_part, m_join, k_cntT, k_cntS, k_sw, k_up, m_cntT, m_cntS, m_sw, m_up, i_rev, y_str, y_int, y_bl, y_non, y_tup, y_fl, y_ref, y_dic, t_bl, t_int, t_non, t_tup, t_fl, t_ref, g_nm, g_tp, setN0, setN1, wipe0, wipe1, stay0, stay1, at_0, at_1, at_2, at_3, at_4, at_5, at_last, ix_0, ix_1, ix_2, cut_init, new_at, new_at1, app_lt, put_at, put_ne, W_ok, W_nx, W_rt, W_bk, W_ct, W_bad, W_badS, List.getElem?_cons_zero, List.getElem?_cons_succ, List.set_cons_zero, List.set_cons_succ, if_true, if_false, Bool.false_eq_true, true_and, and_true, decide_eq_true_eq, decide_eq_false_iff_not, forall_const, not_true_eq_false, not_false_eq_true, false_implies, implies_true, Option.some.injEq, exists_eq_left', exists_eq_left, exists_and_left, fin_nx, fin_rt, fin_bk, fin_ct, fin_ex, Bool.not_eq_true', Bool.not_eq_false', Bool.true_eq_false, reduceCtorEq, D.bl.injEq, D.int.injEq, D.str.injEq, D.ref.injEq, D.tup.injEq, D.fl.injEq, Ob.lst.injEq, Ob.dic.injEq, List.length_map, List.length_append, List.length_cons, List.length_nil, Nat.reduceAdd, Nat.reduceLT, Nat.reduceLeDiff, Nat.zero_lt_succ, false_and, and_false, exists_false, ty_ne, eq_self, Int.cast_ofNat_Int, Int.reduceEq, Int.reduceLT, Int.reduceLE, decide_true, decide_false, ofString_inj, String.reduceEq, Option.map_some, Bool.not_true, Bool.not_false, true_implies]
    refine (number_ok (n := n + 1) hb k0 k1).imp ?_
    rintro _ h ⟨rfl, rfl⟩
    simp only [ex_some, W_var, W_cst, W_bin, W_neg, W_cmp, W_chn, W_and, W_or, W_not, W_ite, W_tup, W_lst, W_dic, W_ix, W_sl, W_fn, W_bi, W_me, W_isi, W_lc, W_a0, W_a1, W_o0, W_o1, W_c0, W_c1, W_iof, W_ir1, W_ir2, W_truR, W_blR, T_and, T_or, T_not, T_var, T_cst, T_cmp, T_chn, T_fn, T_bi, T_isi, S_asg, S_unp, S_set, S_augA, S_augS, S_ex, S_ret, S_retN, S_ife, S_whl, S_fr, S_pas, S_brk, S_cnt, S_rse, b_add, b_sub, b_mul, b_div, b_mod, b_pow, b_str, b_tup, b_ref, c_eq, c_ne, c_in, c_ni, c_lt, c_le, c_gt, c_ge, c_ltS, c_is, c_isN, c_isB, q_int, q_str, q_bl, q_is, q_si, x_tup, x_fl, x_str, x_ref, x_dic, x_dicS, s_tup, s_str, s_fl, s_ref, i_len, i_int, i_intB, i_intS, i_abs, i_str, i_min, i_max, i_sum, i_all, i_any, i_list, i_tuple, n_tup, n_fl, n_ref, n_dic, l_fl, l_ref, e_tup, e_fl, e_ref, it_tup, it_fl, it_str, it_ref, k_app, k_ext, k_pop, k_split, k_part, k_join, m_app, m_ext, m_pop, m_split, m_part, m_join, k_cntT, k_cntS, k_sw, k_up, m_cntT, m_cntS, m_sw, m_up, i_rev, y_str, y_int, y_bl, y_non, y_tup, y_fl, y_ref, y_dic, t_bl, t_int, t_non, t_tup, t_fl, t_ref, g_nm, g_tp, setN0, setN1, wipe0, wipe1, stay0, stay1, at_0, at_1, at_2, at_3, at_4, at_5, at_last, ix_0, ix_1, ix_2, cut_init, new_at, new_at1, app_lt, put_at, put_ne, W_ok, W_nx, W_rt, W_bk, W_ct, W_bad, W_badS, List.getElem?_cons_zero, List.getElem?_cons_succ, List.set_cons_zero, List.set_cons_succ, if_true, if_false, Bool.false_eq_true, true_and, and_true, decide_eq_true_eq, decide_eq_false_iff_not, forall_const, not_true_eq_false, not_false_eq_true, false_implies, implies_true, Option.some.injEq, exists_eq_left', exists_eq_left, exists_and_left, fin_nx, fin_rt, fin_bk, fin_ct, fin_ex, Bool.not_eq_true', Bool.not_eq_false', Bool.true_eq_false, reduceCtorEq, D.bl.injEq, D.int.injEq, D.str.injEq, D.ref.injEq, D.tup.injEq, D.fl.injEq, Ob.lst.injEq, Ob.dic.injEq, List.length_map, List.length_append, List.length_cons, List.length_nil, Nat.reduceAdd, Nat.reduceLT, Nat.reduceLeDiff, Nat.zero_lt_succ, false_and, and_false, exists_false, ty_ne, eq_self, Int.cast_ofNat_Int, Int.reduceEq, Int.reduceLT, Int.reduceLE, decide_true, decide_false, ofString_inj, String.reduceEq, Option.map_some, Bool.not_true, Bool.not_false, true_implies, W_cons, W_nil]
    refine (int_ok (n := n + 1)).imp ?_
    rintro _ h ⟨rfl, rfl⟩
    simp only [ex_some, W_var, W_cst, W_bin, W_neg, W_cmp, W_chn, W_and, W_or, W_not, W_ite, W_tup, W_lst, W_dic, W_ix, W_sl, W_fn, W_bi, W_me, W_isi, W_lc, W_a0, W_a1, W_o0, W_o1, W_c0, W_c1, W_iof, W_ir1, W_ir2, W_truR, W_blR, T_and, T_or, T_not, T_var, T_cst, T_cmp, T_chn, T_fn, T_bi, T_isi, S_asg, S_unp, S_set, S_augA, S_augS, S_ex, S_ret, S_retN, S_ife, S_whl, S_fr, S_pas, S_brk, S_cnt, S_rse, b_add, b_sub, b_mul, b_div, b_mod, b_pow, b_str, b_tup, b_ref, c_eq, c_ne, c_in, c_ni, c_lt, c_le, c_gt, c_ge, c_ltS, c_is, c_isN, c_isB, q_int, q_str, q_bl, q_is, q_si, x_tup, x_fl, x_str, x_ref, x_dic, x_dicS, s_tup, s_str, s_fl, s_ref, i_len, i_int, i_intB, i_intS, i_abs, i_str, i_min, i_max, i_sum, i_all, i_any, i_list, i_tuple, n_tup, n_fl, n_ref, n_dic, l_fl, l_ref, e_tup, e_fl, e_ref, it_tup, it_fl, it_str, it_ref, k_app, k_ext, k_pop, k_split, k_part, k_join, m_app, m_ext, m_pop, m_split, m_part, m_join, k_cntT, k_cntS, k_sw, k_up, m_cntT, m_cntS, m_sw, m_up, i_rev, y_str, y_int, y_bl, y_non, y_tup, y_fl, y_ref, y_dic, t_bl, t_int, t_non, t_tup, t_fl, t_ref, g_nm, g_tp, setN0, setN1, wipe0, wipe1, stay0, stay1, at_0, at_1, at_2, at_3, at_4, at_5, at_last, ix_0, ix_1, ix_2, cut_init, new_at, new_at1, app_lt, put_at, put_ne, W_ok, W_nx, W_rt, W_bk, W_ct, W_bad, W_badS, List.getElem?_cons_zero, List.getElem?_cons_succ, List.set_cons_zero, List.set_cons_succ, if_true, if_false, Bool.false_eq_true, true_and, and_true, decide_eq_true_eq, decide_eq_false_iff_not, forall_const, not_true_eq_false, not_false_eq_true, false_implies, implies_true, Option.some.injEq, exists_eq_left', exists_eq_left, exists_and_left, fin_nx, fin_rt, fin_bk, fin_ct, fin_ex, Bool.not_eq_true', Bool.not_eq_false', Bool.true_eq_false, reduceCtorEq, D.bl.injEq, D.int.injEq, D.str.injEq, D.ref.injEq, D.tup.injEq, D.fl.injEq, Ob.lst.injEq, Ob.dic.injEq, List.length_map, List.length_append, List.length_cons, List.length_nil, Nat.reduceAdd, Nat.reduceLT, Nat.reduceLeDiff, Nat.zero_lt_succ, false_and, and_false, exists_false, ty_ne, eq_self, Int.cast_ofNat_Int, Int.reduceEq, Int.reduceLT, Int.reduceLE, decide_true, decide_false, ofString_inj, String.reduceEq, Option.map_some, Bool.not_true, Bool.not_false, true_implies, W_cons, W_nil, e]
    exact ⟨_, _, _, _, _, rfl⟩
  · rintro σ h' ⟨rfl, a, b, c, d', e', rfl⟩
    dsimp only
    simp only [ex_some, W_var, W_cst, W_bin, W_neg, W_cmp, W_chn, W_and, W_or, W_not, W_ite, W_tup, W_lst, W_dic, W_ix, W_sl, W_fn, W_bi, W_me, W_isi, W_lc, W_a0, W_a1, W_o0, W_o1, W_c0, W_c1, W_iof, W_ir1, W_ir2, W_truR, W_blR, T_and, T_or, T_not, T_var, T_cst, T_cmp, T_chn, T_fn, T_bi, T_isi, S_asg, S_unp, S_set, S_augA, S_augS, S_ex, S_ret, S_retN, S_ife, S_whl, S_fr, S_pas, S_brk, S_cnt, S_rse, b_add, b_sub, b_mul, b_div, b_mod, b_pow, b_str, b_tup, b_ref, c_eq, c_ne, c_in, c_ni, c_lt, c_le, c_gt, c_ge, c_ltS, c_is, c_isN, c_isB, q_int, q_str, q_bl, q_is, q_si, x_tup, x_fl, x_str, x_ref, x_dic, x_dicS, s_tup, s_str, s_fl, s_ref, i_len, i_int, i_intB, i_intS, i_abs, i_str, i_min, i_max, i_sum, i_all, i_any, i_list, i_tuple, n_tup, n_fl, n_ref, n_dic, l_fl, l_ref, e_tup, e_fl, e_ref, it_tup, it_fl, it_str, it_ref, k_app, k_ext, k_pop, k_split, k_part, k_join, m_app, m_ext, m_pop, m_split, m_part, m_join, k_cntT, k_cntS, k_sw, k_up, m_cntT, m_cntS, m_sw, m_up, i_rev, y_str, y_int, y_bl, y_non, y_tup, y_fl, y_ref, y_dic, t_bl, t_int, t_non, t_tup, t_fl, t_ref, g_nm, g_tp, setN0, setN1, wipe0, wipe1, stay0, stay1, at_0, at_1, at_2, at_3, at_4, at_5, at_last, ix_0, ix_1, ix_2, cut_init, new_at, new_at1, app_lt, put_at, put_ne, W_ok, W_nx, W_rt, W_bk, W_ct, W_bad, W_badS, List.getElem?_cons_zero, List.getElem?_cons_succ, List.set_cons_zero, List.set_cons_succ, if_true, if_false, Bool.false_eq_true, true_and, and_true, decide_eq_true_eq, decide_eq_false_iff_not, forall_const, not_true_eq_false, not_false_eq_true, false_implies, implies_true, Option.some.injEq, exists_eq_left', exists_eq_left, exists_and_left, fin_nx, fin_rt, fin_bk, fin_ct, fin_ex, Bool.not_eq_true', Bool.not_eq_false', Bool.true_eq_false, reduceCtorEq, D.bl.injEq, D.int.injEq, D.str.injEq, D.ref.injEq, D.tup.injEq, D.fl.injEq, Ob.lst.injEq, Ob.dic.injEq, List.length_map, List.length_append, List.length_cons, List.length_nil, Nat.reduceAdd, Nat.reduceLT, Nat.reduceLeDiff, Nat.zero_lt_succ, false_and, and_false, exists_false, ty_ne, eq_self, Int.cast_ofNat_Int, Int.reduceEq, Int.reduceLT, Int.reduceLE, decide_true, decide_false, ofString_inj, String.reduceEq, Option.map_some, Bool.not_true, Bool.not_false, true_implies, W_cons, W_nil]
theorem atm_lit {t b : String} {k : Int} (e : Str.ofString t = txA (Str.ofString b) k) (hb : b.toList.length ≤ 8) (nd : 46 ∉ (Str.ofString b).cps.toList) (k0 : 0 ≤ k) (k1 : k ≤ 999999) : Atm (.tup [.str (Str.ofString t), .str (Str.ofString b), .int k]) := by
  rw [e]
  exact ⟨_, _, rfl, ⟨Tx.lit hb, nd⟩, k0, k1⟩
end
section
variable {wf : Nat}
def Sts (h : Hd) (q : Nat) : Prop := ∃ l : List Str, h[q]? = some (.lst (l.map D.str))
/-- an atom's text -/
def tOf : D → D
  | .tup (x :: _) => x
  | _ => .non
theorem texts_of : ∀ (l : List D), (∀ d ∈ l, Atm d) → ∃ ts : List Str, l.map tOf = ts.map D.str ∧ ts.length = l.length
  | [], _ => ⟨[], rfl, rfl⟩
  | d :: r, h => by
    obtain ⟨ts, e, hl⟩ := texts_of r fun x hx => h x (List.mem_cons_of_mem _ hx)
    obtain ⟨b, k, rfl, _⟩ := h d List.mem_cons_self
    exact ⟨txA b k :: ts, by simp [tOf, atD, e], by simp [hl]⟩
theorem law_ok {ns : List Int} : (callN P wf 100 19 [.fl (ns.map D.int)] []).W XF (fun d _ => d = .bl true) := by
  refine W_call (n := 99) P_law rfl ?_
  simp only [c_law, c_law_1, c_law_2, c_law_3, startD, List.map_cons, List.map_nil, List.length_cons, List.length_nil, List.replicate, List.cons_append, List.nil_append, Nat.reduceSub, Nat.reduceAdd]
  rw [W_cons]
  simp only [ex_some, W_var, W_cst, W_bin, W_neg, W_cmp, W_chn, W_and, W_or, W_not, W_ite, W_tup, W_lst, W_dic, W_ix, W_sl, W_fn, W_bi, W_me, W_isi, W_lc, W_a0, W_a1, W_o0, W_o1, W_c0, W_c1, W_iof, W_ir1, W_ir2, W_truR, W_blR, T_and, T_or, T_not, T_var, T_cst, T_cmp, T_chn, T_fn, T_bi, T_isi, S_asg, S_unp, S_set, S_augA, S_augS, S_ex, S_ret, S_retN, S_ife, S_whl, S_fr, S_pas, S_brk, S_cnt, S_rse, b_add, b_sub, b_mul, b_div, b_mod, b_pow, b_str, b_tup, b_ref, c_eq, c_ne, c_in, c_ni, c_lt, c_le, c_gt, c_ge, c_ltS, c_is, c_isN, c_isB, q_int, q_str, q_bl, q_is, q_si, x_tup, x_fl, x_str, x_ref, x_dic, x_dicS, s_tup, s_str, s_fl, s_ref, i_len, i_int, i_intB, i_intS, i_abs, i_str, i_min, i_max, i_sum, i_all, i_any, i_list, i_tuple, n_tup, n_fl, n_ref, n_dic, l_fl, l_ref, e_tup, e_fl, e_ref, it_tup, it_fl, it_str, it_ref, k_app, k_ext, k_pop, k_split, k_part, k_join, m_app, m_ext, m_pop, m_split, m_part, m_join, k_cntT, k_cntS, k_sw, k_up, m_cntT, m_cntS, m_sw, m_up, i_rev, y_str, y_int, y_bl, y_non, y_tup, y_fl, y_ref, y_dic, t_bl, t_int, t_non, t_tup, t_fl, t_ref, g_nm, g_tp, setN0, setN1, wipe0, wipe1, stay0, stay1, at_0, at_1, at_2, at_3, at_4, at_5, at_last, ix_0, ix_1, ix_2, cut_init, new_at, new_at1, app_lt, put_at, put_ne, W_ok, W_nx, W_rt, W_bk, W_ct, W_bad, W_badS, List.getElem?_cons_zero, List.getElem?_cons_succ, List.set_cons_zero, List.set_cons_succ, if_true, if_false, Bool.false_eq_true, true_and, and_true, decide_eq_true_eq, decide_eq_false_iff_not, forall_const, not_true_eq_false, not_false_eq_true, false_implies, implies_true, Option.some.injEq, exists_eq_left', exists_eq_left, exists_and_left, fin_nx, fin_rt, fin_bk, fin_ct, fin_ex, Bool.not_eq_true', Bool.not_eq_false', Bool.true_eq_false, reduceCtorEq, D.bl.injEq, D.int.injEq, D.str.injEq, D.ref.injEq, D.tup.injEq, D.fl.injEq, Ob.lst.injEq, Ob.dic.injEq, List.length_map, List.length_append, List.length_cons, List.length_nil, Nat.reduceAdd, Nat.reduceLT, Nat.reduceLeDiff, Nat.zero_lt_succ, false_and, and_false, exists_false, ty_ne, eq_self, Int.cast_ofNat_Int, Int.reduceEq, Int.reduceLT, Int.reduceLE, decide_true, decide_false, ofString_inj, String.reduceEq, Option.map_some, Bool.not_true, Bool.not_false, true_implies]
  refine (pool_ok (n := 97) (by omega) (by omega)).imp ?_
  rintro _ h1 ⟨p, rfl, _, p1, _⟩
  rw [W_cons]
  simp only [ex_some, W_var, W_cst, W_bin, W_neg, W_cmp, W_chn, W_and, W_or, W_not, W_ite, W_tup, W_lst, W_dic, W_ix, W_sl, W_fn, W_bi, W_me, W_isi, W_lc, W_a0, W_a1, W_o0, W_o1, W_c0, W_c1, W_iof, W_ir1, W_ir2, W_truR, W_blR, T_and, T_or, T_not, T_var, T_cst, T_cmp, T_chn, T_fn, T_bi, T_isi, S_asg, S_unp, S_set, S_augA, S_augS, S_ex, S_ret, S_retN, S_ife, S_whl, S_fr, S_pas, S_brk, S_cnt, S_rse, b_add, b_sub, b_mul, b_div, b_mod, b_pow, b_str, b_tup, b_ref, c_eq, c_ne, c_in, c_ni, c_lt, c_le, c_gt, c_ge, c_ltS, c_is, c_isN, c_isB, q_int, q_str, q_bl, q_is, q_si, x_tup, x_fl, x_str, x_ref, x_dic, x_dicS, s_tup, s_str, s_fl, s_ref, i_len, i_int, i_intB, i_intS, i_abs, i_str, i_min, i_max, i_sum, i_all, i_any, i_list, i_tuple, n_tup, n_fl, n_ref, n_dic, l_fl, l_ref, e_tup, e_fl, e_ref, it_tup, it_fl, it_str, it_ref, k_app, k_ext, k_pop, k_split, k_part, k_join, m_app, m_ext, m_pop, m_split, m_part, m_join, k_cntT, k_cntS, k_sw, k_up, m_cntT, m_cntS, m_sw, m_up, i_rev, y_str, y_int, y_bl, y_non, y_tup, y_fl, y_ref, y_dic, t_bl, t_int, t_non, t_tup, t_fl, t_ref, g_nm, g_tp, setN0, setN1, wipe0, wipe1, stay0, stay1, at_0, at_1, at_2, at_3, at_4, at_5, at_last, ix_0, ix_1, ix_2, cut_init, new_at, new_at1, app_lt, put_at, put_ne, W_ok, W_nx, W_rt, W_bk, W_ct, W_bad, W_badS, List.getElem?_cons_zero, List.getElem?_cons_succ, List.set_cons_zero, List.set_cons_succ, if_true, if_false, Bool.false_eq_true, true_and, and_true, decide_eq_true_eq, decide_eq_false_iff_not, forall_const, not_true_eq_false, not_false_eq_true, false_implies, implies_true, Option.some.injEq, exists_eq_left', exists_eq_left, exists_and_left, fin_nx, fin_rt, fin_bk, fin_ct, fin_ex, Bool.not_eq_true', Bool.not_eq_false', Bool.true_eq_false, reduceCtorEq, D.bl.injEq, D.int.injEq, D.str.injEq, D.ref.injEq, D.tup.injEq, D.fl.injEq, Ob.lst.injEq, Ob.dic.injEq, List.length_map, List.length_append, List.length_cons, List.length_nil, Nat.reduceAdd, Nat.reduceLT, Nat.reduceLeDiff, Nat.zero_lt_succ, false_and, and_false, exists_false, ty_ne, eq_self, Int.cast_ofNat_Int, Int.reduceEq, Int.reduceLT, Int.reduceLE, decide_true, decide_false, ofString_inj, String.reduceEq, Option.map_some, Bool.not_true, Bool.not_false, true_implies]
  refine (lot_ok (n := 95) p1 (by omega)).imp ?_
  rintro _ h2 ⟨ql, rfl, nl, ll, p2, f2⟩
  rw [W_cons]
  simp only [ex_some, W_var, W_cst, W_bin, W_neg, W_cmp, W_chn, W_and, W_or, W_not, W_ite, W_tup, W_lst, W_dic, W_ix, W_sl, W_fn, W_bi, W_me, W_isi, W_lc, W_a0, W_a1, W_o0, W_o1, W_c0, W_c1, W_iof, W_ir1, W_ir2, W_truR, W_blR, T_and, T_or, T_not, T_var, T_cst, T_cmp, T_chn, T_fn, T_bi, T_isi, S_asg, S_unp, S_set, S_augA, S_augS, S_ex, S_ret, S_retN, S_ife, S_whl, S_fr, S_pas, S_brk, S_cnt, S_rse, b_add, b_sub, b_mul, b_div, b_mod, b_pow, b_str, b_tup, b_ref, c_eq, c_ne, c_in, c_ni, c_lt, c_le, c_gt, c_ge, c_ltS, c_is, c_isN, c_isB, q_int, q_str, q_bl, q_is, q_si, x_tup, x_fl, x_str, x_ref, x_dic, x_dicS, s_tup, s_str, s_fl, s_ref, i_len, i_int, i_intB, i_intS, i_abs, i_str, i_min, i_max, i_sum, i_all, i_any, i_list, i_tuple, n_tup, n_fl, n_ref, n_dic, l_fl, l_ref, e_tup, e_fl, e_ref, it_tup, it_fl, it_str, it_ref, k_app, k_ext, k_pop, k_split, k_part, k_join, m_app, m_ext, m_pop, m_split, m_part, m_join, k_cntT, k_cntS, k_sw, k_up, m_cntT, m_cntS, m_sw, m_up, i_rev, y_str, y_int, y_bl, y_non, y_tup, y_fl, y_ref, y_dic, t_bl, t_int, t_non, t_tup, t_fl, t_ref, g_nm, g_tp, setN0, setN1, wipe0, wipe1, stay0, stay1, at_0, at_1, at_2, at_3, at_4, at_5, at_last, ix_0, ix_1, ix_2, cut_init, new_at, new_at1, app_lt, put_at, put_ne, W_ok, W_nx, W_rt, W_bk, W_ct, W_bad, W_badS, List.getElem?_cons_zero, List.getElem?_cons_succ, List.set_cons_zero, List.set_cons_succ, if_true, if_false, Bool.false_eq_true, true_and, and_true, decide_eq_true_eq, decide_eq_false_iff_not, forall_const, not_true_eq_false, not_false_eq_true, false_implies, implies_true, Option.some.injEq, exists_eq_left', exists_eq_left, exists_and_left, fin_nx, fin_rt, fin_bk, fin_ct, fin_ex, Bool.not_eq_true', Bool.not_eq_false', Bool.true_eq_false, reduceCtorEq, D.bl.injEq, D.int.injEq, D.str.injEq, D.ref.injEq, D.tup.injEq, D.fl.injEq, Ob.lst.injEq, Ob.dic.injEq, List.length_map, List.length_append, List.length_cons, List.length_nil, Nat.reduceAdd, Nat.reduceLT, Nat.reduceLeDiff, Nat.zero_lt_succ, false_and, and_false, exists_false, ty_ne, eq_self, Int.cast_ofNat_Int, Int.reduceEq, Int.reduceLT, Int.reduceLE, decide_true, decide_false, ofString_inj, String.reduceEq, Option.map_some, Bool.not_true, Bool.not_false, true_implies]
  refine (row_ok (n := 95) p2 (by omega) ll nl).imp ?_
  rintro _ h3 ⟨qr, rfl, nr, lr, p3, f3⟩
  have nl' : ql ∉ [p] := by simpa using nl
  have nr' : qr ∉ [p] := by simpa using nr
  have ll3 := ll.fr f3 nl'
  rw [W_cons]
  simp only [ex_some, W_var, W_cst, W_bin, W_neg, W_cmp, W_chn, W_and, W_or, W_not, W_ite, W_tup, W_lst, W_dic, W_ix, W_sl, W_fn, W_bi, W_me, W_isi, W_lc, W_a0, W_a1, W_o0, W_o1, W_c0, W_c1, W_iof, W_ir1, W_ir2, W_truR, W_blR, T_and, T_or, T_not, T_var, T_cst, T_cmp, T_chn, T_fn, T_bi, T_isi, S_asg, S_unp, S_set, S_augA, S_augS, S_ex, S_ret, S_retN, S_ife, S_whl, S_fr, S_pas, S_brk, S_cnt, S_rse, b_add, b_sub, b_mul, b_div, b_mod, b_pow, b_str, b_tup, b_ref, c_eq, c_ne, c_in, c_ni, c_lt, c_le, c_gt, c_ge, c_ltS, c_is, c_isN, c_isB, q_int, q_str, q_bl, q_is, q_si, x_tup, x_fl, x_str, x_ref, x_dic, x_dicS, s_tup, s_str, s_fl, s_ref, i_len, i_int, i_intB, i_intS, i_abs, i_str, i_min, i_max, i_sum, i_all, i_any, i_list, i_tuple, n_tup, n_fl, n_ref, n_dic, l_fl, l_ref, e_tup, e_fl, e_ref, it_tup, it_fl, it_str, it_ref, k_app, k_ext, k_pop, k_split, k_part, k_join, m_app, m_ext, m_pop, m_split, m_part, m_join, k_cntT, k_cntS, k_sw, k_up, m_cntT, m_cntS, m_sw, m_up, i_rev, y_str, y_int, y_bl, y_non, y_tup, y_fl, y_ref, y_dic, t_bl, t_int, t_non, t_tup, t_fl, t_ref, g_nm, g_tp, setN0, setN1, wipe0, wipe1, stay0, stay1, at_0, at_1, at_2, at_3, at_4, at_5, at_last, ix_0, ix_1, ix_2, cut_init, new_at, new_at1, app_lt, put_at, put_ne, W_ok, W_nx, W_rt, W_bk, W_ct, W_bad, W_badS, List.getElem?_cons_zero, List.getElem?_cons_succ, List.set_cons_zero, List.set_cons_succ, if_true, if_false, Bool.false_eq_true, true_and, and_true, decide_eq_true_eq, decide_eq_false_iff_not, forall_const, not_true_eq_false, not_false_eq_true, false_implies, implies_true, Option.some.injEq, exists_eq_left', exists_eq_left, exists_and_left, fin_nx, fin_rt, fin_bk, fin_ct, fin_ex, Bool.not_eq_true', Bool.not_eq_false', Bool.true_eq_false, reduceCtorEq, D.bl.injEq, D.int.injEq, D.str.injEq, D.ref.injEq, D.tup.injEq, D.fl.injEq, Ob.lst.injEq, Ob.dic.injEq, List.length_map, List.length_append, List.length_cons, List.length_nil, Nat.reduceAdd, Nat.reduceLT, Nat.reduceLeDiff, Nat.zero_lt_succ, false_and, and_false, exists_false, ty_ne, eq_self, Int.cast_ofNat_Int, Int.reduceEq, Int.reduceLT, Int.reduceLE, decide_true, decide_false, ofString_inj, String.reduceEq, Option.map_some, Bool.not_true, Bool.not_false, true_implies]
  refine (fresh_ok (n := 96) p3 (by omega)).imp ?_
  rintro _ h4 ⟨⟨b0, k0, rfl, hb0, k00, k01⟩, p4, f4⟩
  obtain ⟨lot, el, lot4, lota⟩ := ll3.fr f4 nl'
  obtain ⟨row, er, row1, row2, rowa⟩ := lr.fr f4 nr'
  simp only [ex_some, W_var, W_cst, W_bin, W_neg, W_cmp, W_chn, W_and, W_or, W_not, W_ite, W_tup, W_lst, W_dic, W_ix, W_sl, W_fn, W_bi, W_me, W_isi, W_lc, W_a0, W_a1, W_o0, W_o1, W_c0, W_c1, W_iof, W_ir1, W_ir2, W_truR, W_blR, T_and, T_or, T_not, T_var, T_cst, T_cmp, T_chn, T_fn, T_bi, T_isi, S_asg, S_unp, S_set, S_augA, S_augS, S_ex, S_ret, S_retN, S_ife, S_whl, S_fr, S_pas, S_brk, S_cnt, S_rse, b_add, b_sub, b_mul, b_div, b_mod, b_pow, b_str, b_tup, b_ref, c_eq, c_ne, c_in, c_ni, c_lt, c_le, c_gt, c_ge, c_ltS, c_is, c_isN, c_isB, q_int, q_str, q_bl, q_is, q_si, x_tup, x_fl, x_str, x_ref, x_dic, x_dicS, s_tup, s_str, s_fl, s_ref, i_len, i_int, i_intB, i_intS, i_abs, i_str, i_min, i_max, i_sum, i_all, i_any, i_list, i_tuple, n_tup, n_fl, n_ref, n_dic, l_fl, l_ref, e_tup, e_fl, e_ref, it_tup, it_fl, it_str, it_ref, k_app, k_ext, k_pop, k_split, k_part, k_join, m_app, m_ext, m_pop, m_split, m_part, m_join, k_cntT, k_cntS, k_sw, k_up, m_cntT, m_cntS, m_sw, m_up, i_rev, y_str, y_int, y_bl, y_non, y_tup, y_fl, y_ref, y_dic, t_bl, t_int, t_non, t_tup, t_fl, t_ref, g_nm, g_tp, setN0, setN1, wipe0, wipe1, stay0, stay1, at_0, at_1, at_2, at_3, at_4, at_5, at_last, ix_0, ix_1, ix_2, cut_init, new_at, new_at1, app_lt, put_at, put_ne, W_ok, W_nx, W_rt, W_bk, W_ct, W_bad, W_badS, List.getElem?_cons_zero, List.getElem?_cons_succ, List.set_cons_zero, List.set_cons_succ, if_true, if_false, Bool.false_eq_true, true_and, and_true, decide_eq_true_eq, decide_eq_false_iff_not, forall_const, not_true_eq_false, not_false_eq_true, false_implies, implies_true, Option.some.injEq, exists_eq_left', exists_eq_left, exists_and_left, fin_nx, fin_rt, fin_bk, fin_ct, fin_ex, Bool.not_eq_true', Bool.not_eq_false', Bool.true_eq_false, reduceCtorEq, D.bl.injEq, D.int.injEq, D.str.injEq, D.ref.injEq, D.tup.injEq, D.fl.injEq, Ob.lst.injEq, Ob.dic.injEq, List.length_map, List.length_append, List.length_cons, List.length_nil, Nat.reduceAdd, Nat.reduceLT, Nat.reduceLeDiff, Nat.zero_lt_succ, false_and, and_false, exists_false, ty_ne, eq_self, Int.cast_ofNat_Int, Int.reduceEq, Int.reduceLT, Int.reduceLE, decide_true, decide_false, ofString_inj, String.reduceEq, Option.map_some, Bool.not_true, Bool.not_false, true_implies, atD]
  refine ⟨by decide, ?_⟩
  simp only [c_law_4]
  rw [W_cons]
  have lt4 := lt_of_get el
  simp only [ex_some, W_var, W_cst, W_bin, W_neg, W_cmp, W_chn, W_and, W_or, W_not, W_ite, W_tup, W_lst, W_dic, W_ix, W_sl, W_fn, W_bi, W_me, W_isi, W_lc, W_a0, W_a1, W_o0, W_o1, W_c0, W_c1, W_iof, W_ir1, W_ir2, W_truR, W_blR, T_and, T_or, T_not, T_var, T_cst, T_cmp, T_chn, T_fn, T_bi, T_isi, S_asg, S_unp, S_set, S_augA, S_augS, S_ex, S_ret, S_retN, S_ife, S_whl, S_fr, S_pas, S_brk, S_cnt, S_rse, b_add, b_sub, b_mul, b_div, b_mod, b_pow, b_str, b_tup, b_ref, c_eq, c_ne, c_in, c_ni, c_lt, c_le, c_gt, c_ge, c_ltS, c_is, c_isN, c_isB, q_int, q_str, q_bl, q_is, q_si, x_tup, x_fl, x_str, x_ref, x_dic, x_dicS, s_tup, s_str, s_fl, s_ref, i_len, i_int, i_intB, i_intS, i_abs, i_str, i_min, i_max, i_sum, i_all, i_any, i_list, i_tuple, n_tup, n_fl, n_ref, n_dic, l_fl, l_ref, e_tup, e_fl, e_ref, it_tup, it_fl, it_str, it_ref, k_app, k_ext, k_pop, k_split, k_part, k_join, m_app, m_ext, m_pop, m_split, m_part, m_join, k_cntT, k_cntS, k_sw, k_up, m_cntT, m_cntS, m_sw, m_up, i_rev, y_str, y_int, y_bl, y_non, y_tup, y_fl, y_ref, y_dic, t_bl, t_int, t_non, t_tup, t_fl, t_ref, g_nm, g_tp, setN0, setN1, wipe0, wipe1, stay0, stay1, at_0, at_1, at_2, at_3, at_4, at_5, at_last, ix_0, ix_1, ix_2, cut_init, new_at, new_at1, app_lt, put_at, put_ne, W_ok, W_nx, W_rt, W_bk, W_ct, W_bad, W_badS, List.getElem?_cons_zero, List.getElem?_cons_succ, List.set_cons_zero, List.set_cons_succ, if_true, if_false, Bool.false_eq_true, true_and, and_true, decide_eq_true_eq, decide_eq_false_iff_not, forall_const, not_true_eq_false, not_false_eq_true, false_implies, implies_true, Option.some.injEq, exists_eq_left', exists_eq_left, exists_and_left, fin_nx, fin_rt, fin_bk, fin_ct, fin_ex, Bool.not_eq_true', Bool.not_eq_false', Bool.true_eq_false, reduceCtorEq, D.bl.injEq, D.int.injEq, D.str.injEq, D.ref.injEq, D.tup.injEq, D.fl.injEq, Ob.lst.injEq, Ob.dic.injEq, List.length_map, List.length_append, List.length_cons, List.length_nil, Nat.reduceAdd, Nat.reduceLT, Nat.reduceLeDiff, Nat.zero_lt_succ, false_and, and_false, exists_false, ty_ne, eq_self, Int.cast_ofNat_Int, Int.reduceEq, Int.reduceLT, Int.reduceLE, decide_true, decide_false, ofString_inj, String.reduceEq, Option.map_some, Bool.not_true, Bool.not_false, true_implies, el, lt4]
  refine W_for (fun i σ h' => Eg.Fr [] h4 h' ∧ ∃ qa a b c, Sts h' qa ∧ (∀ l, h'[qa]? = some (.lst l) → l.length ≤ 1 + 4 * i) ∧ σ = [some (.fl (ns.map D.int)), some (.ref p), some (.ref ql), some (.ref qr), some (.ref qa), a, b, c, Option.none, Option.none, Option.none, Option.none, Option.none, Option.none, Option.none])
    ⟨Fr.new, h4.length, _, _, _, ⟨[_], by rw [new_at]; rfl⟩, fun l e => by rw [new_at] at e; cases e; simp, rfl⟩ ?_ ?_
  · rintro i d σ h' ei ⟨ff, qa, x, y, z, ⟨as, ea⟩, la, rfl⟩
    have hi := (List.getElem?_eq_some_iff.mp ei).1
    obtain ⟨b, k, rfl, hb, e0, e1⟩ := lota d (List.mem_of_getElem? ei)
    refine ⟨_, rfl, ?_⟩
    rw [W_cons]
    simp only [ex_some, W_var, W_cst, W_bin, W_neg, W_cmp, W_chn, W_and, W_or, W_not, W_ite, W_tup, W_lst, W_dic, W_ix, W_sl, W_fn, W_bi, W_me, W_isi, W_lc, W_a0, W_a1, W_o0, W_o1, W_c0, W_c1, W_iof, W_ir1, W_ir2, W_truR, W_blR, T_and, T_or, T_not, T_var, T_cst, T_cmp, T_chn, T_fn, T_bi, T_isi, S_asg, S_unp, S_set, S_augA, S_augS, S_ex, S_ret, S_retN, S_ife, S_whl, S_fr, S_pas, S_brk, S_cnt, S_rse, b_add, b_sub, b_mul, b_div, b_mod, b_pow, b_str, b_tup, b_ref, c_eq, c_ne, c_in, c_ni, c_lt, c_le, c_gt, c_ge, c_ltS, c_is, c_isN, c_isB, q_int, q_str, q_bl, q_is, q_si, x_tup, x_fl, x_str, x_ref, x_dic, x_dicS, s_tup, s_str, s_fl, s_ref, i_len, i_int, i_intB, i_intS, i_abs, i_str, i_min, i_max, i_sum, i_all, i_any, i_list, i_tuple, n_tup, n_fl, n_ref, n_dic, l_fl, l_ref, e_tup, e_fl, e_ref, it_tup, it_fl, it_str, it_ref, k_app, k_ext, k_pop, k_split, k_part, k_join, m_app, m_ext, m_pop, m_split, m_part, m_join, k_cntT, k_cntS, k_sw, k_up, m_cntT, m_cntS, m_sw, m_up, i_rev, y_str, y_int, y_bl, y_non, y_tup, y_fl, y_ref, y_dic, t_bl, t_int, t_non, t_tup, t_fl, t_ref, g_nm, g_tp, setN0, setN1, wipe0, wipe1, stay0, stay1, at_0, at_1, at_2, at_3, at_4, at_5, at_last, ix_0, ix_1, ix_2, cut_init, new_at, new_at1, app_lt, put_at, put_ne, W_ok, W_nx, W_rt, W_bk, W_ct, W_bad, W_badS, List.getElem?_cons_zero, List.getElem?_cons_succ, List.set_cons_zero, List.set_cons_succ, if_true, if_false, Bool.false_eq_true, true_and, and_true, decide_eq_true_eq, decide_eq_false_iff_not, forall_const, not_true_eq_false, not_false_eq_true, false_implies, implies_true, Option.some.injEq, exists_eq_left', exists_eq_left, exists_and_left, fin_nx, fin_rt, fin_bk, fin_ct, fin_ex, Bool.not_eq_true', Bool.not_eq_false', Bool.true_eq_false, reduceCtorEq, D.bl.injEq, D.int.injEq, D.str.injEq, D.ref.injEq, D.tup.injEq, D.fl.injEq, Ob.lst.injEq, Ob.dic.injEq, List.length_map, List.length_append, List.length_cons, List.length_nil, Nat.reduceAdd, Nat.reduceLT, Nat.reduceLeDiff, Nat.zero_lt_succ, false_and, and_false, exists_false, ty_ne, eq_self, Int.cast_ofNat_Int, Int.reduceEq, Int.reduceLT, Int.reduceLE, decide_true, decide_false, ofString_inj, String.reduceEq, Option.map_some, Bool.not_true, Bool.not_false, true_implies]
    have m1 := Int.fmod_nonneg_of_pos k (b := 999999) (by omega)
    have m2 := Int.fmod_lt_of_pos k (b := 999999) (by omega)
    refine ⟨by omega, ?_⟩
    refine (numbered_ok (n := 98) hb (by omega) (by omega)).imp ?_
    rintro _ h' ⟨rfl, rfl⟩
    have lta := lt_of_get ea
    have bl := hb.tx.le
    have al := la _ ea
    rw [List.length_map] at al
    simp only [ex_some, W_var, W_cst, W_bin, W_neg, W_cmp, W_chn, W_and, W_or, W_not, W_ite, W_tup, W_lst, W_dic, W_ix, W_sl, W_fn, W_bi, W_me, W_isi, W_lc, W_a0, W_a1, W_o0, W_o1, W_c0, W_c1, W_iof, W_ir1, W_ir2, W_truR, W_blR, T_and, T_or, T_not, T_var, T_cst, T_cmp, T_chn, T_fn, T_bi, T_isi, S_asg, S_unp, S_set, S_augA, S_augS, S_ex, S_ret, S_retN, S_ife, S_whl, S_fr, S_pas, S_brk, S_cnt, S_rse, b_add, b_sub, b_mul, b_div, b_mod, b_pow, b_str, b_tup, b_ref, c_eq, c_ne, c_in, c_ni, c_lt, c_le, c_gt, c_ge, c_ltS, c_is, c_isN, c_isB, q_int, q_str, q_bl, q_is, q_si, x_tup, x_fl, x_str, x_ref, x_dic, x_dicS, s_tup, s_str, s_fl, s_ref, i_len, i_int, i_intB, i_intS, i_abs, i_str, i_min, i_max, i_sum, i_all, i_any, i_list, i_tuple, n_tup, n_fl, n_ref, n_dic, l_fl, l_ref, e_tup, e_fl, e_ref, it_tup, it_fl, it_str, it_ref, k_app, k_ext, k_pop, k_split, k_part, k_join, m_app, m_ext, m_pop, m_split, m_part, m_join, k_cntT, k_cntS, k_sw, k_up, m_cntT, m_cntS, m_sw, m_up, i_rev, y_str, y_int, y_bl, y_non, y_tup, y_fl, y_ref, y_dic, t_bl, t_int, t_non, t_tup, t_fl, t_ref, g_nm, g_tp, setN0, setN1, wipe0, wipe1, stay0, stay1, at_0, at_1, at_2, at_3, at_4, at_5, at_last, ix_0, ix_1, ix_2, cut_init, new_at, new_at1, app_lt, put_at, put_ne, W_ok, W_nx, W_rt, W_bk, W_ct, W_bad, W_badS, List.getElem?_cons_zero, List.getElem?_cons_succ, List.set_cons_zero, List.set_cons_succ, if_true, if_false, Bool.false_eq_true, true_and, and_true, decide_eq_true_eq, decide_eq_false_iff_not, forall_const, not_true_eq_false, not_false_eq_true, false_implies, implies_true, Option.some.injEq, exists_eq_left', exists_eq_left, exists_and_left, fin_nx, fin_rt, fin_bk, fin_ct, fin_ex, Bool.not_eq_true', Bool.not_eq_false', Bool.true_eq_false, reduceCtorEq, D.bl.injEq, D.int.injEq, D.str.injEq, D.ref.injEq, D.tup.injEq, D.fl.injEq, Ob.lst.injEq, Ob.dic.injEq, List.length_map, List.length_append, List.length_cons, List.length_nil, Nat.reduceAdd, Nat.reduceLT, Nat.reduceLeDiff, Nat.zero_lt_succ, false_and, and_false, exists_false, ty_ne, eq_self, Int.cast_ofNat_Int, Int.reduceEq, Int.reduceLT, Int.reduceLE, decide_true, decide_false, ofString_inj, String.reduceEq, Option.map_some, Bool.not_true, Bool.not_false, true_implies, atD, ea, lta]
    have hf : Eg.Fr [] h4 (h' ++ [Ob.lst [D.str (txA b k), D.str b, D.str (txA b (k.fmod 999999 + 1)), D.str (cutS b Option.none (some 1))]] ++ [Ob.lst (as.map D.str ++ [D.str (txA b k), D.str b, D.str (txA b (k.fmod 999999 + 1)), D.str (cutS b Option.none (some 1))])]) := (ff.trans Fr.new).trans Fr.new
    refine ⟨by show _ ≤ 1000000; omega, by decide, lim_of (by omega), ?_⟩
    rw [W_nil]
    refine ⟨hf.at0 el, hf, h'.length + 1, ⟨as ++ [txA b k, b, txA b (k.fmod 999999 + 1), cutS b Option.none (some 1)], by rw [new_at1]; simp⟩, fun l e => ?_, _, _, _, rfl⟩
    rw [new_at1] at e
    cases e
    simp
    omega
  · rintro σ h5 ⟨ff, qa, x, y, z, ⟨as, ea⟩, la, rfl⟩
    dsimp only
    simp only [c_law_5]
    rw [W_cons]
    have er5 := ff.at0 er
    simp only [ex_some, W_var, W_cst, W_bin, W_neg, W_cmp, W_chn, W_and, W_or, W_not, W_ite, W_tup, W_lst, W_dic, W_ix, W_sl, W_fn, W_bi, W_me, W_isi, W_lc, W_a0, W_a1, W_o0, W_o1, W_c0, W_c1, W_iof, W_ir1, W_ir2, W_truR, W_blR, T_and, T_or, T_not, T_var, T_cst, T_cmp, T_chn, T_fn, T_bi, T_isi, S_asg, S_unp, S_set, S_augA, S_augS, S_ex, S_ret, S_retN, S_ife, S_whl, S_fr, S_pas, S_brk, S_cnt, S_rse, b_add, b_sub, b_mul, b_div, b_mod, b_pow, b_str, b_tup, b_ref, c_eq, c_ne, c_in, c_ni, c_lt, c_le, c_gt, c_ge, c_ltS, c_is, c_isN, c_isB, q_int, q_str, q_bl, q_is, q_si, x_tup, x_fl, x_str, x_ref, x_dic, x_dicS, s_tup, s_str, s_fl, s_ref, i_len, i_int, i_intB, i_intS, i_abs, i_str, i_min, i_max, i_sum, i_all, i_any, i_list, i_tuple, n_tup, n_fl, n_ref, n_dic, l_fl, l_ref, e_tup, e_fl, e_ref, it_tup, it_fl, it_str, it_ref, k_app, k_ext, k_pop, k_split, k_part, k_join, m_app, m_ext, m_pop, m_split, m_part, m_join, k_cntT, k_cntS, k_sw, k_up, m_cntT, m_cntS, m_sw, m_up, i_rev, y_str, y_int, y_bl, y_non, y_tup, y_fl, y_ref, y_dic, t_bl, t_int, t_non, t_tup, t_fl, t_ref, g_nm, g_tp, setN0, setN1, wipe0, wipe1, stay0, stay1, at_0, at_1, at_2, at_3, at_4, at_5, at_last, ix_0, ix_1, ix_2, cut_init, new_at, new_at1, app_lt, put_at, put_ne, W_ok, W_nx, W_rt, W_bk, W_ct, W_bad, W_badS, List.getElem?_cons_zero, List.getElem?_cons_succ, List.set_cons_zero, List.set_cons_succ, if_true, if_false, Bool.false_eq_true, true_and, and_true, decide_eq_true_eq, decide_eq_false_iff_not, forall_const, not_true_eq_false, not_false_eq_true, false_implies, implies_true, Option.some.injEq, exists_eq_left', exists_eq_left, exists_and_left, fin_nx, fin_rt, fin_bk, fin_ct, fin_ex, Bool.not_eq_true', Bool.not_eq_false', Bool.true_eq_false, reduceCtorEq, D.bl.injEq, D.int.injEq, D.str.injEq, D.ref.injEq, D.tup.injEq, D.fl.injEq, Ob.lst.injEq, Ob.dic.injEq, List.length_map, List.length_append, List.length_cons, List.length_nil, Nat.reduceAdd, Nat.reduceLT, Nat.reduceLeDiff, Nat.zero_lt_succ, false_and, and_false, exists_false, ty_ne, eq_self, Int.cast_ofNat_Int, Int.reduceEq, Int.reduceLT, Int.reduceLE, decide_true, decide_false, ofString_inj, String.reduceEq, Option.map_some, Bool.not_true, Bool.not_false, true_implies, er5]
    obtain ⟨ts, ets, lts⟩ := texts_of row rowa
    refine lc_ex (fun j r h' => h' = h5 ∧ r = (row.take j).map tOf) ⟨rfl, rfl⟩ ?_ ?_
    · rintro j d r h' e ⟨rfl, rfl⟩
      obtain ⟨b, k, rfl, hb, _, _⟩ := rowa d (List.mem_of_getElem? e)
      refine ⟨_, rfl, ?_⟩
      simp only [ex_some, W_var, W_cst, W_bin, W_neg, W_cmp, W_chn, W_and, W_or, W_not, W_ite, W_tup, W_lst, W_dic, W_ix, W_sl, W_fn, W_bi, W_me, W_isi, W_lc, W_a0, W_a1, W_o0, W_o1, W_c0, W_c1, W_iof, W_ir1, W_ir2, W_truR, W_blR, T_and, T_or, T_not, T_var, T_cst, T_cmp, T_chn, T_fn, T_bi, T_isi, S_asg, S_unp, S_set, S_augA, S_augS, S_ex, S_ret, S_retN, S_ife, S_whl, S_fr, S_pas, S_brk, S_cnt, S_rse, b_add, b_sub, b_mul, b_div, b_mod, b_pow, b_str, b_tup, b_ref, c_eq, c_ne, c_in, c_ni, c_lt, c_le, c_gt, c_ge, c_ltS, c_is, c_isN, c_isB, q_int, q_str, q_bl, q_is, q_si, x_tup, x_fl, x_str, x_ref, x_dic, x_dicS, s_tup, s_str, s_fl, s_ref, i_len, i_int, i_intB, i_intS, i_abs, i_str, i_min, i_max, i_sum, i_all, i_any, i_list, i_tuple, n_tup, n_fl, n_ref, n_dic, l_fl, l_ref, e_tup, e_fl, e_ref, it_tup, it_fl, it_str, it_ref, k_app, k_ext, k_pop, k_split, k_part, k_join, m_app, m_ext, m_pop, m_split, m_part, m_join, k_cntT, k_cntS, k_sw, k_up, m_cntT, m_cntS, m_sw, m_up, i_rev, y_str, y_int, y_bl, y_non, y_tup, y_fl, y_ref, y_dic, t_bl, t_int, t_non, t_tup, t_fl, t_ref, g_nm, g_tp, setN0, setN1, wipe0, wipe1, stay0, stay1, at_0, at_1, at_2, at_3, at_4, at_5, at_last, ix_0, ix_1, ix_2, cut_init, new_at, new_at1, app_lt, put_at, put_ne, W_ok, W_nx, W_rt, W_bk, W_ct, W_bad, W_badS, List.getElem?_cons_zero, List.getElem?_cons_succ, List.set_cons_zero, List.set_cons_succ, if_true, if_false, Bool.false_eq_true, true_and, and_true, decide_eq_true_eq, decide_eq_false_iff_not, forall_const, not_true_eq_false, not_false_eq_true, false_implies, implies_true, Option.some.injEq, exists_eq_left', exists_eq_left, exists_and_left, fin_nx, fin_rt, fin_bk, fin_ct, fin_ex, Bool.not_eq_true', Bool.not_eq_false', Bool.true_eq_false, reduceCtorEq, D.bl.injEq, D.int.injEq, D.str.injEq, D.ref.injEq, D.tup.injEq, D.fl.injEq, Ob.lst.injEq, Ob.dic.injEq, List.length_map, List.length_append, List.length_cons, List.length_nil, Nat.reduceAdd, Nat.reduceLT, Nat.reduceLeDiff, Nat.zero_lt_succ, false_and, and_false, exists_false, ty_ne, eq_self, Int.cast_ofNat_Int, Int.reduceEq, Int.reduceLT, Int.reduceLE, decide_true, decide_false, ofString_inj, String.reduceEq, Option.map_some, Bool.not_true, Bool.not_false, true_implies, atD]
      refine ⟨er5, ?_⟩
      rw [List.take_add_one, e]
      simp [tOf, atD]
    rintro r h' ⟨rfl, rfl⟩
    rw [List.take_length, ets]
    have f5 := ff
    have p5 := p4.fr f5 List.not_mem_nil
    refine ⟨by rw [List.length_map]; exact lim_of (by omega), ?_⟩
    generalize h6e : h' ++ [Ob.lst (ts.map D.str)] = h6
    have et6 : h6[h'.length]? = some (.lst (ts.map D.str)) := by rw [← h6e]; exact new_at
    have g6 : Eg.Fr [] h' h6 := by rw [← h6e]; exact Fr.new
    have ea6 := g6.at0 ea
    have er6 := g6.at0 er5
    have el6 := g6.at0 (ff.at0 el)
    simp only [c_law_6]
    rw [W_cons]
    simp only [ex_some, W_var, W_cst, W_bin, W_neg, W_cmp, W_chn, W_and, W_or, W_not, W_ite, W_tup, W_lst, W_dic, W_ix, W_sl, W_fn, W_bi, W_me, W_isi, W_lc, W_a0, W_a1, W_o0, W_o1, W_c0, W_c1, W_iof, W_ir1, W_ir2, W_truR, W_blR, T_and, T_or, T_not, T_var, T_cst, T_cmp, T_chn, T_fn, T_bi, T_isi, S_asg, S_unp, S_set, S_augA, S_augS, S_ex, S_ret, S_retN, S_ife, S_whl, S_fr, S_pas, S_brk, S_cnt, S_rse, b_add, b_sub, b_mul, b_div, b_mod, b_pow, b_str, b_tup, b_ref, c_eq, c_ne, c_in, c_ni, c_lt, c_le, c_gt, c_ge, c_ltS, c_is, c_isN, c_isB, q_int, q_str, q_bl, q_is, q_si, x_tup, x_fl, x_str, x_ref, x_dic, x_dicS, s_tup, s_str, s_fl, s_ref, i_len, i_int, i_intB, i_intS, i_abs, i_str, i_min, i_max, i_sum, i_all, i_any, i_list, i_tuple, n_tup, n_fl, n_ref, n_dic, l_fl, l_ref, e_tup, e_fl, e_ref, it_tup, it_fl, it_str, it_ref, k_app, k_ext, k_pop, k_split, k_part, k_join, m_app, m_ext, m_pop, m_split, m_part, m_join, k_cntT, k_cntS, k_sw, k_up, m_cntT, m_cntS, m_sw, m_up, i_rev, y_str, y_int, y_bl, y_non, y_tup, y_fl, y_ref, y_dic, t_bl, t_int, t_non, t_tup, t_fl, t_ref, g_nm, g_tp, setN0, setN1, wipe0, wipe1, stay0, stay1, at_0, at_1, at_2, at_3, at_4, at_5, at_last, ix_0, ix_1, ix_2, cut_init, new_at, new_at1, app_lt, put_at, put_ne, W_ok, W_nx, W_rt, W_bk, W_ct, W_bad, W_badS, List.getElem?_cons_zero, List.getElem?_cons_succ, List.set_cons_zero, List.set_cons_succ, if_true, if_false, Bool.false_eq_true, true_and, and_true, decide_eq_true_eq, decide_eq_false_iff_not, forall_const, not_true_eq_false, not_false_eq_true, false_implies, implies_true, Option.some.injEq, exists_eq_left', exists_eq_left, exists_and_left, fin_nx, fin_rt, fin_bk, fin_ct, fin_ex, Bool.not_eq_true', Bool.not_eq_false', Bool.true_eq_false, reduceCtorEq, D.bl.injEq, D.int.injEq, D.str.injEq, D.ref.injEq, D.tup.injEq, D.fl.injEq, Ob.lst.injEq, Ob.dic.injEq, List.length_map, List.length_append, List.length_cons, List.length_nil, Nat.reduceAdd, Nat.reduceLT, Nat.reduceLeDiff, Nat.zero_lt_succ, false_and, and_false, exists_false, ty_ne, eq_self, Int.cast_ofNat_Int, Int.reduceEq, Int.reduceLT, Int.reduceLE, decide_true, decide_false, ofString_inj, String.reduceEq, Option.map_some, Bool.not_true, Bool.not_false, true_implies, et6]
    have h7l : ∀ h7, h7 = h6 ++ [Ob.lst (ts.map D.str).reverse] → h7[h6.length]? = some (.lst (ts.reverse.map D.str)) ∧ Eg.Fr [] h6 h7 := by
      rintro _ rfl
      exact ⟨by rw [new_at, List.map_reverse], Fr.new⟩
    generalize h7e : h6 ++ [Ob.lst (ts.map D.str).reverse] = h7
    obtain ⟨eb7, g7⟩ := h7l h7 h7e.symm
    simp only [c_law_7]
    rw [W_cons]
    simp only [ex_some, W_var, W_cst, W_bin, W_neg, W_cmp, W_chn, W_and, W_or, W_not, W_ite, W_tup, W_lst, W_dic, W_ix, W_sl, W_fn, W_bi, W_me, W_isi, W_lc, W_a0, W_a1, W_o0, W_o1, W_c0, W_c1, W_iof, W_ir1, W_ir2, W_truR, W_blR, T_and, T_or, T_not, T_var, T_cst, T_cmp, T_chn, T_fn, T_bi, T_isi, S_asg, S_unp, S_set, S_augA, S_augS, S_ex, S_ret, S_retN, S_ife, S_whl, S_fr, S_pas, S_brk, S_cnt, S_rse, b_add, b_sub, b_mul, b_div, b_mod, b_pow, b_str, b_tup, b_ref, c_eq, c_ne, c_in, c_ni, c_lt, c_le, c_gt, c_ge, c_ltS, c_is, c_isN, c_isB, q_int, q_str, q_bl, q_is, q_si, x_tup, x_fl, x_str, x_ref, x_dic, x_dicS, s_tup, s_str, s_fl, s_ref, i_len, i_int, i_intB, i_intS, i_abs, i_str, i_min, i_max, i_sum, i_all, i_any, i_list, i_tuple, n_tup, n_fl, n_ref, n_dic, l_fl, l_ref, e_tup, e_fl, e_ref, it_tup, it_fl, it_str, it_ref, k_app, k_ext, k_pop, k_split, k_part, k_join, m_app, m_ext, m_pop, m_split, m_part, m_join, k_cntT, k_cntS, k_sw, k_up, m_cntT, m_cntS, m_sw, m_up, i_rev, y_str, y_int, y_bl, y_non, y_tup, y_fl, y_ref, y_dic, t_bl, t_int, t_non, t_tup, t_fl, t_ref, g_nm, g_tp, setN0, setN1, wipe0, wipe1, stay0, stay1, at_0, at_1, at_2, at_3, at_4, at_5, at_last, ix_0, ix_1, ix_2, cut_init, new_at, new_at1, app_lt, put_at, put_ne, W_ok, W_nx, W_rt, W_bk, W_ct, W_bad, W_badS, List.getElem?_cons_zero, List.getElem?_cons_succ, List.set_cons_zero, List.set_cons_succ, if_true, if_false, Bool.false_eq_true, true_and, and_true, decide_eq_true_eq, decide_eq_false_iff_not, forall_const, not_true_eq_false, not_false_eq_true, false_implies, implies_true, Option.some.injEq, exists_eq_left', exists_eq_left, exists_and_left, fin_nx, fin_rt, fin_bk, fin_ct, fin_ex, Bool.not_eq_true', Bool.not_eq_false', Bool.true_eq_false, reduceCtorEq, D.bl.injEq, D.int.injEq, D.str.injEq, D.ref.injEq, D.tup.injEq, D.fl.injEq, Ob.lst.injEq, Ob.dic.injEq, List.length_map, List.length_append, List.length_cons, List.length_nil, Nat.reduceAdd, Nat.reduceLT, Nat.reduceLeDiff, Nat.zero_lt_succ, false_and, and_false, exists_false, ty_ne, eq_self, Int.cast_ofNat_Int, Int.reduceEq, Int.reduceLT, Int.reduceLE, decide_true, decide_false, ofString_inj, String.reduceEq, Option.map_some, Bool.not_true, Bool.not_false, true_implies]
    refine (pool_ok (n := 97) (by omega) (by omega)).imp ?_
    rintro _ h8 ⟨q1, rfl, q1l, q1p, f8⟩
    simp only [c_law_8]
    rw [W_cons]
    simp only [ex_some, W_var, W_cst, W_bin, W_neg, W_cmp, W_chn, W_and, W_or, W_not, W_ite, W_tup, W_lst, W_dic, W_ix, W_sl, W_fn, W_bi, W_me, W_isi, W_lc, W_a0, W_a1, W_o0, W_o1, W_c0, W_c1, W_iof, W_ir1, W_ir2, W_truR, W_blR, T_and, T_or, T_not, T_var, T_cst, T_cmp, T_chn, T_fn, T_bi, T_isi, S_asg, S_unp, S_set, S_augA, S_augS, S_ex, S_ret, S_retN, S_ife, S_whl, S_fr, S_pas, S_brk, S_cnt, S_rse, b_add, b_sub, b_mul, b_div, b_mod, b_pow, b_str, b_tup, b_ref, c_eq, c_ne, c_in, c_ni, c_lt, c_le, c_gt, c_ge, c_ltS, c_is, c_isN, c_isB, q_int, q_str, q_bl, q_is, q_si, x_tup, x_fl, x_str, x_ref, x_dic, x_dicS, s_tup, s_str, s_fl, s_ref, i_len, i_int, i_intB, i_intS, i_abs, i_str, i_min, i_max, i_sum, i_all, i_any, i_list, i_tuple, n_tup, n_fl, n_ref, n_dic, l_fl, l_ref, e_tup, e_fl, e_ref, it_tup, it_fl, it_str, it_ref, k_app, k_ext, k_pop, k_split, k_part, k_join, m_app, m_ext, m_pop, m_split, m_part, m_join, k_cntT, k_cntS, k_sw, k_up, m_cntT, m_cntS, m_sw, m_up, i_rev, y_str, y_int, y_bl, y_non, y_tup, y_fl, y_ref, y_dic, t_bl, t_int, t_non, t_tup, t_fl, t_ref, g_nm, g_tp, setN0, setN1, wipe0, wipe1, stay0, stay1, at_0, at_1, at_2, at_3, at_4, at_5, at_last, ix_0, ix_1, ix_2, cut_init, new_at, new_at1, app_lt, put_at, put_ne, W_ok, W_nx, W_rt, W_bk, W_ct, W_bad, W_badS, List.getElem?_cons_zero, List.getElem?_cons_succ, List.set_cons_zero, List.set_cons_succ, if_true, if_false, Bool.false_eq_true, true_and, and_true, decide_eq_true_eq, decide_eq_false_iff_not, forall_const, not_true_eq_false, not_false_eq_true, false_implies, implies_true, Option.some.injEq, exists_eq_left', exists_eq_left, exists_and_left, fin_nx, fin_rt, fin_bk, fin_ct, fin_ex, Bool.not_eq_true', Bool.not_eq_false', Bool.true_eq_false, reduceCtorEq, D.bl.injEq, D.int.injEq, D.str.injEq, D.ref.injEq, D.tup.injEq, D.fl.injEq, Ob.lst.injEq, Ob.dic.injEq, List.length_map, List.length_append, List.length_cons, List.length_nil, Nat.reduceAdd, Nat.reduceLT, Nat.reduceLeDiff, Nat.zero_lt_succ, false_and, and_false, exists_false, ty_ne, eq_self, Int.cast_ofNat_Int, Int.reduceEq, Int.reduceLT, Int.reduceLE, decide_true, decide_false, ofString_inj, String.reduceEq, Option.map_some, Bool.not_true, Bool.not_false, true_implies]
    refine (draw_ok (n := 97) q1p (by omega) (by omega) (by omega)).imp ?_
    rintro _ h9 ⟨⟨v, rfl, v0, v1⟩, q1p, f9, _⟩
    have lt7 := lt_of_get eb7
    have lt6 := lt_of_get et6
    have le67 := g7.le
    have nq : ∀ x, x < h7.length → x ∉ [q1] := fun x hx z => by simp at z; omega
    have F79 : Eg.Fr [q1] h7 h9 := f8.nil.trans f9
    have et9 := F79.at (g7.at0 et6) (nq _ (by omega))
    have br := bracket_ok (wf := wf) (E := fun e h => XF e h) ts.length (96 - ts.length) (0 + 1) ts h'.length v h9 rfl (by omega) (by omega) q1p et9 (by omega) (by omega)
    rw [show 96 - ts.length + ts.length + 3 = 99 by omega] at br
    refine br.imp ?_
    rintro kd1 h10 ⟨kb1, _, f10⟩
    have F710 := F79.trans f10
    simp only [c_law_9]
    rw [W_cons]
    simp only [ex_some, W_var, W_cst, W_bin, W_neg, W_cmp, W_chn, W_and, W_or, W_not, W_ite, W_tup, W_lst, W_dic, W_ix, W_sl, W_fn, W_bi, W_me, W_isi, W_lc, W_a0, W_a1, W_o0, W_o1, W_c0, W_c1, W_iof, W_ir1, W_ir2, W_truR, W_blR, T_and, T_or, T_not, T_var, T_cst, T_cmp, T_chn, T_fn, T_bi, T_isi, S_asg, S_unp, S_set, S_augA, S_augS, S_ex, S_ret, S_retN, S_ife, S_whl, S_fr, S_pas, S_brk, S_cnt, S_rse, b_add, b_sub, b_mul, b_div, b_mod, b_pow, b_str, b_tup, b_ref, c_eq, c_ne, c_in, c_ni, c_lt, c_le, c_gt, c_ge, c_ltS, c_is, c_isN, c_isB, q_int, q_str, q_bl, q_is, q_si, x_tup, x_fl, x_str, x_ref, x_dic, x_dicS, s_tup, s_str, s_fl, s_ref, i_len, i_int, i_intB, i_intS, i_abs, i_str, i_min, i_max, i_sum, i_all, i_any, i_list, i_tuple, n_tup, n_fl, n_ref, n_dic, l_fl, l_ref, e_tup, e_fl, e_ref, it_tup, it_fl, it_str, it_ref, k_app, k_ext, k_pop, k_split, k_part, k_join, m_app, m_ext, m_pop, m_split, m_part, m_join, k_cntT, k_cntS, k_sw, k_up, m_cntT, m_cntS, m_sw, m_up, i_rev, y_str, y_int, y_bl, y_non, y_tup, y_fl, y_ref, y_dic, t_bl, t_int, t_non, t_tup, t_fl, t_ref, g_nm, g_tp, setN0, setN1, wipe0, wipe1, stay0, stay1, at_0, at_1, at_2, at_3, at_4, at_5, at_last, ix_0, ix_1, ix_2, cut_init, new_at, new_at1, app_lt, put_at, put_ne, W_ok, W_nx, W_rt, W_bk, W_ct, W_bad, W_badS, List.getElem?_cons_zero, List.getElem?_cons_succ, List.set_cons_zero, List.set_cons_succ, if_true, if_false, Bool.false_eq_true, true_and, and_true, decide_eq_true_eq, decide_eq_false_iff_not, forall_const, not_true_eq_false, not_false_eq_true, false_implies, implies_true, Option.some.injEq, exists_eq_left', exists_eq_left, exists_and_left, fin_nx, fin_rt, fin_bk, fin_ct, fin_ex, Bool.not_eq_true', Bool.not_eq_false', Bool.true_eq_false, reduceCtorEq, D.bl.injEq, D.int.injEq, D.str.injEq, D.ref.injEq, D.tup.injEq, D.fl.injEq, Ob.lst.injEq, Ob.dic.injEq, List.length_map, List.length_append, List.length_cons, List.length_nil, Nat.reduceAdd, Nat.reduceLT, Nat.reduceLeDiff, Nat.zero_lt_succ, false_and, and_false, exists_false, ty_ne, eq_self, Int.cast_ofNat_Int, Int.reduceEq, Int.reduceLT, Int.reduceLE, decide_true, decide_false, ofString_inj, String.reduceEq, Option.map_some, Bool.not_true, Bool.not_false, true_implies]
    refine (pool_ok (n := 97) (by omega) (by omega)).imp ?_
    rintro _ h11 ⟨q2, rfl, q2l, q2p, f11⟩
    simp only [c_law_10]
    rw [W_cons]
    simp only [ex_some, W_var, W_cst, W_bin, W_neg, W_cmp, W_chn, W_and, W_or, W_not, W_ite, W_tup, W_lst, W_dic, W_ix, W_sl, W_fn, W_bi, W_me, W_isi, W_lc, W_a0, W_a1, W_o0, W_o1, W_c0, W_c1, W_iof, W_ir1, W_ir2, W_truR, W_blR, T_and, T_or, T_not, T_var, T_cst, T_cmp, T_chn, T_fn, T_bi, T_isi, S_asg, S_unp, S_set, S_augA, S_augS, S_ex, S_ret, S_retN, S_ife, S_whl, S_fr, S_pas, S_brk, S_cnt, S_rse, b_add, b_sub, b_mul, b_div, b_mod, b_pow, b_str, b_tup, b_ref, c_eq, c_ne, c_in, c_ni, c_lt, c_le, c_gt, c_ge, c_ltS, c_is, c_isN, c_isB, q_int, q_str, q_bl, q_is, q_si, x_tup, x_fl, x_str, x_ref, x_dic, x_dicS, s_tup, s_str, s_fl, s_ref, i_len, i_int, i_intB, i_intS, i_abs, i_str, i_min, i_max, i_sum, i_all, i_any, i_list, i_tuple, n_tup, n_fl, n_ref, n_dic, l_fl, l_ref, e_tup, e_fl, e_ref, it_tup, it_fl, it_str, it_ref, k_app, k_ext, k_pop, k_split, k_part, k_join, m_app, m_ext, m_pop, m_split, m_part, m_join, k_cntT, k_cntS, k_sw, k_up, m_cntT, m_cntS, m_sw, m_up, i_rev, y_str, y_int, y_bl, y_non, y_tup, y_fl, y_ref, y_dic, t_bl, t_int, t_non, t_tup, t_fl, t_ref, g_nm, g_tp, setN0, setN1, wipe0, wipe1, stay0, stay1, at_0, at_1, at_2, at_3, at_4, at_5, at_last, ix_0, ix_1, ix_2, cut_init, new_at, new_at1, app_lt, put_at, put_ne, W_ok, W_nx, W_rt, W_bk, W_ct, W_bad, W_badS, List.getElem?_cons_zero, List.getElem?_cons_succ, List.set_cons_zero, List.set_cons_succ, if_true, if_false, Bool.false_eq_true, true_and, and_true, decide_eq_true_eq, decide_eq_false_iff_not, forall_const, not_true_eq_false, not_false_eq_true, false_implies, implies_true, Option.some.injEq, exists_eq_left', exists_eq_left, exists_and_left, fin_nx, fin_rt, fin_bk, fin_ct, fin_ex, Bool.not_eq_true', Bool.not_eq_false', Bool.true_eq_false, reduceCtorEq, D.bl.injEq, D.int.injEq, D.str.injEq, D.ref.injEq, D.tup.injEq, D.fl.injEq, Ob.lst.injEq, Ob.dic.injEq, List.length_map, List.length_append, List.length_cons, List.length_nil, Nat.reduceAdd, Nat.reduceLT, Nat.reduceLeDiff, Nat.zero_lt_succ, false_and, and_false, exists_false, ty_ne, eq_self, Int.cast_ofNat_Int, Int.reduceEq, Int.reduceLT, Int.reduceLE, decide_true, decide_false, ofString_inj, String.reduceEq, Option.map_some, Bool.not_true, Bool.not_false, true_implies]
    refine (draw_ok (n := 97) q2p (by omega) (by omega) (by omega)).imp ?_
    rintro _ h12 ⟨⟨u, rfl, u0, u1⟩, q2p, f12, _⟩
    have le10 := F710.le
    have all12 : ∀ x o, x < h7.length → h7[x]? = some o → h12[x]? = some o := fun x o hx e => f12.at (f11.at0 (F710.at e (nq x hx))) (fun z => by simp at z; omega)
    have br2 := bracket_ok (wf := wf) (E := fun e h => XF e h) ts.length (96 - ts.length) (0 + 1) ts.reverse h6.length u h12 (by simp) (by omega) (by omega) q2p (all12 _ _ lt7 eb7) (by omega) (by omega)
    rw [show 96 - ts.length + ts.length + 3 = 99 by omega] at br2
    refine br2.imp ?_
    rintro kd2 h13 ⟨kb2, _, f13⟩
    have all13 : ∀ x o, x < h7.length → h7[x]? = some o → h13[x]? = some o := fun x o hx e => f13.at (all12 x o hx e) (fun z => by simp at z; omega)
    have et13 := all13 _ _ (by omega) (g7.at0 et6)
    have eb13 := all13 _ _ lt7 eb7
    have ea13 := all13 _ _ (lt_of_get (g7.at0 ea6)) (g7.at0 ea6)
    have er13 := all13 _ _ (lt_of_get (g7.at0 er6)) (g7.at0 er6)
    have el13 := all13 _ _ (lt_of_get (g7.at0 el6)) (g7.at0 el6)
    simp only [c_law_11]
    rw [W_cons]
    simp only [ex_some, W_var, W_cst, W_bin, W_neg, W_cmp, W_chn, W_and, W_or, W_not, W_ite, W_tup, W_lst, W_dic, W_ix, W_sl, W_fn, W_bi, W_me, W_isi, W_lc, W_a0, W_a1, W_o0, W_o1, W_c0, W_c1, W_iof, W_ir1, W_ir2, W_truR, W_blR, T_and, T_or, T_not, T_var, T_cst, T_cmp, T_chn, T_fn, T_bi, T_isi, S_asg, S_unp, S_set, S_augA, S_augS, S_ex, S_ret, S_retN, S_ife, S_whl, S_fr, S_pas, S_brk, S_cnt, S_rse, b_add, b_sub, b_mul, b_div, b_mod, b_pow, b_str, b_tup, b_ref, c_eq, c_ne, c_in, c_ni, c_lt, c_le, c_gt, c_ge, c_ltS, c_is, c_isN, c_isB, q_int, q_str, q_bl, q_is, q_si, x_tup, x_fl, x_str, x_ref, x_dic, x_dicS, s_tup, s_str, s_fl, s_ref, i_len, i_int, i_intB, i_intS, i_abs, i_str, i_min, i_max, i_sum, i_all, i_any, i_list, i_tuple, n_tup, n_fl, n_ref, n_dic, l_fl, l_ref, e_tup, e_fl, e_ref, it_tup, it_fl, it_str, it_ref, k_app, k_ext, k_pop, k_split, k_part, k_join, m_app, m_ext, m_pop, m_split, m_part, m_join, k_cntT, k_cntS, k_sw, k_up, m_cntT, m_cntS, m_sw, m_up, i_rev, y_str, y_int, y_bl, y_non, y_tup, y_fl, y_ref, y_dic, t_bl, t_int, t_non, t_tup, t_fl, t_ref, g_nm, g_tp, setN0, setN1, wipe0, wipe1, stay0, stay1, at_0, at_1, at_2, at_3, at_4, at_5, at_last, ix_0, ix_1, ix_2, cut_init, new_at, new_at1, app_lt, put_at, put_ne, W_ok, W_nx, W_rt, W_bk, W_ct, W_bad, W_badS, List.getElem?_cons_zero, List.getElem?_cons_succ, List.set_cons_zero, List.set_cons_succ, if_true, if_false, Bool.false_eq_true, true_and, and_true, decide_eq_true_eq, decide_eq_false_iff_not, forall_const, not_true_eq_false, not_false_eq_true, false_implies, implies_true, Option.some.injEq, exists_eq_left', exists_eq_left, exists_and_left, fin_nx, fin_rt, fin_bk, fin_ct, fin_ex, Bool.not_eq_true', Bool.not_eq_false', Bool.true_eq_false, reduceCtorEq, D.bl.injEq, D.int.injEq, D.str.injEq, D.ref.injEq, D.tup.injEq, D.fl.injEq, Ob.lst.injEq, Ob.dic.injEq, List.length_map, List.length_append, List.length_cons, List.length_nil, Nat.reduceAdd, Nat.reduceLT, Nat.reduceLeDiff, Nat.zero_lt_succ, false_and, and_false, exists_false, ty_ne, eq_self, Int.cast_ofNat_Int, Int.reduceEq, Int.reduceLT, Int.reduceLE, decide_true, decide_false, ofString_inj, String.reduceEq, Option.map_some, Bool.not_true, Bool.not_false, true_implies]
    refine (measured_ok (n := 49) kb1 (by omega) et13 ea13).imp ?_
    rintro _ h14 ⟨rfl, f14⟩
    simp only [ex_some, W_var, W_cst, W_bin, W_neg, W_cmp, W_chn, W_and, W_or, W_not, W_ite, W_tup, W_lst, W_dic, W_ix, W_sl, W_fn, W_bi, W_me, W_isi, W_lc, W_a0, W_a1, W_o0, W_o1, W_c0, W_c1, W_iof, W_ir1, W_ir2, W_truR, W_blR, T_and, T_or, T_not, T_var, T_cst, T_cmp, T_chn, T_fn, T_bi, T_isi, S_asg, S_unp, S_set, S_augA, S_augS, S_ex, S_ret, S_retN, S_ife, S_whl, S_fr, S_pas, S_brk, S_cnt, S_rse, b_add, b_sub, b_mul, b_div, b_mod, b_pow, b_str, b_tup, b_ref, c_eq, c_ne, c_in, c_ni, c_lt, c_le, c_gt, c_ge, c_ltS, c_is, c_isN, c_isB, q_int, q_str, q_bl, q_is, q_si, x_tup, x_fl, x_str, x_ref, x_dic, x_dicS, s_tup, s_str, s_fl, s_ref, i_len, i_int, i_intB, i_intS, i_abs, i_str, i_min, i_max, i_sum, i_all, i_any, i_list, i_tuple, n_tup, n_fl, n_ref, n_dic, l_fl, l_ref, e_tup, e_fl, e_ref, it_tup, it_fl, it_str, it_ref, k_app, k_ext, k_pop, k_split, k_part, k_join, m_app, m_ext, m_pop, m_split, m_part, m_join, k_cntT, k_cntS, k_sw, k_up, m_cntT, m_cntS, m_sw, m_up, i_rev, y_str, y_int, y_bl, y_non, y_tup, y_fl, y_ref, y_dic, t_bl, t_int, t_non, t_tup, t_fl, t_ref, g_nm, g_tp, setN0, setN1, wipe0, wipe1, stay0, stay1, at_0, at_1, at_2, at_3, at_4, at_5, at_last, ix_0, ix_1, ix_2, cut_init, new_at, new_at1, app_lt, put_at, put_ne, W_ok, W_nx, W_rt, W_bk, W_ct, W_bad, W_badS, List.getElem?_cons_zero, List.getElem?_cons_succ, List.set_cons_zero, List.set_cons_succ, if_true, if_false, Bool.false_eq_true, true_and, and_true, decide_eq_true_eq, decide_eq_false_iff_not, forall_const, not_true_eq_false, not_false_eq_true, false_implies, implies_true, Option.some.injEq, exists_eq_left', exists_eq_left, exists_and_left, fin_nx, fin_rt, fin_bk, fin_ct, fin_ex, Bool.not_eq_true', Bool.not_eq_false', Bool.true_eq_false, reduceCtorEq, D.bl.injEq, D.int.injEq, D.str.injEq, D.ref.injEq, D.tup.injEq, D.fl.injEq, Ob.lst.injEq, Ob.dic.injEq, List.length_map, List.length_append, List.length_cons, List.length_nil, Nat.reduceAdd, Nat.reduceLT, Nat.reduceLeDiff, Nat.zero_lt_succ, false_and, and_false, exists_false, ty_ne, eq_self, Int.cast_ofNat_Int, Int.reduceEq, Int.reduceLT, Int.reduceLE, decide_true, decide_false, ofString_inj, String.reduceEq, Option.map_some, Bool.not_true, Bool.not_false, true_implies]
    refine (measured_ok (n := 49) kb2 (by simp; omega) (f14.at0 eb13) (f14.at0 ea13)).imp ?_
    rintro _ h15 ⟨rfl, f15⟩
    simp only [ex_some, W_var, W_cst, W_bin, W_neg, W_cmp, W_chn, W_and, W_or, W_not, W_ite, W_tup, W_lst, W_dic, W_ix, W_sl, W_fn, W_bi, W_me, W_isi, W_lc, W_a0, W_a1, W_o0, W_o1, W_c0, W_c1, W_iof, W_ir1, W_ir2, W_truR, W_blR, T_and, T_or, T_not, T_var, T_cst, T_cmp, T_chn, T_fn, T_bi, T_isi, S_asg, S_unp, S_set, S_augA, S_augS, S_ex, S_ret, S_retN, S_ife, S_whl, S_fr, S_pas, S_brk, S_cnt, S_rse, b_add, b_sub, b_mul, b_div, b_mod, b_pow, b_str, b_tup, b_ref, c_eq, c_ne, c_in, c_ni, c_lt, c_le, c_gt, c_ge, c_ltS, c_is, c_isN, c_isB, q_int, q_str, q_bl, q_is, q_si, x_tup, x_fl, x_str, x_ref, x_dic, x_dicS, s_tup, s_str, s_fl, s_ref, i_len, i_int, i_intB, i_intS, i_abs, i_str, i_min, i_max, i_sum, i_all, i_any, i_list, i_tuple, n_tup, n_fl, n_ref, n_dic, l_fl, l_ref, e_tup, e_fl, e_ref, it_tup, it_fl, it_str, it_ref, k_app, k_ext, k_pop, k_split, k_part, k_join, m_app, m_ext, m_pop, m_split, m_part, m_join, k_cntT, k_cntS, k_sw, k_up, m_cntT, m_cntS, m_sw, m_up, i_rev, y_str, y_int, y_bl, y_non, y_tup, y_fl, y_ref, y_dic, t_bl, t_int, t_non, t_tup, t_fl, t_ref, g_nm, g_tp, setN0, setN1, wipe0, wipe1, stay0, stay1, at_0, at_1, at_2, at_3, at_4, at_5, at_last, ix_0, ix_1, ix_2, cut_init, new_at, new_at1, app_lt, put_at, put_ne, W_ok, W_nx, W_rt, W_bk, W_ct, W_bad, W_badS, List.getElem?_cons_zero, List.getElem?_cons_succ, List.set_cons_zero, List.set_cons_succ, if_true, if_false, Bool.false_eq_true, true_and, and_true, decide_eq_true_eq, decide_eq_false_iff_not, forall_const, not_true_eq_false, not_false_eq_true, false_implies, implies_true, Option.some.injEq, exists_eq_left', exists_eq_left, exists_and_left, fin_nx, fin_rt, fin_bk, fin_ct, fin_ex, Bool.not_eq_true', Bool.not_eq_false', Bool.true_eq_false, reduceCtorEq, D.bl.injEq, D.int.injEq, D.str.injEq, D.ref.injEq, D.tup.injEq, D.fl.injEq, Ob.lst.injEq, Ob.dic.injEq, List.length_map, List.length_append, List.length_cons, List.length_nil, Nat.reduceAdd, Nat.reduceLT, Nat.reduceLeDiff, Nat.zero_lt_succ, false_and, and_false, exists_false, ty_ne, eq_self, Int.cast_ofNat_Int, Int.reduceEq, Int.reduceLT, Int.reduceLE, decide_true, decide_false, ofString_inj, String.reduceEq, Option.map_some, Bool.not_true, Bool.not_false, true_implies, W_nil]
    have f16 := f14.trans f15
    have er15 := f16.at0 er13
    have el15 := f16.at0 el13
    simp only [c_law_12]
    rw [W_cons]
    simp only [ex_some, W_var, W_cst, W_bin, W_neg, W_cmp, W_chn, W_and, W_or, W_not, W_ite, W_tup, W_lst, W_dic, W_ix, W_sl, W_fn, W_bi, W_me, W_isi, W_lc, W_a0, W_a1, W_o0, W_o1, W_c0, W_c1, W_iof, W_ir1, W_ir2, W_truR, W_blR, T_and, T_or, T_not, T_var, T_cst, T_cmp, T_chn, T_fn, T_bi, T_isi, S_asg, S_unp, S_set, S_augA, S_augS, S_ex, S_ret, S_retN, S_ife, S_whl, S_fr, S_pas, S_brk, S_cnt, S_rse, b_add, b_sub, b_mul, b_div, b_mod, b_pow, b_str, b_tup, b_ref, c_eq, c_ne, c_in, c_ni, c_lt, c_le, c_gt, c_ge, c_ltS, c_is, c_isN, c_isB, q_int, q_str, q_bl, q_is, q_si, x_tup, x_fl, x_str, x_ref, x_dic, x_dicS, s_tup, s_str, s_fl, s_ref, i_len, i_int, i_intB, i_intS, i_abs, i_str, i_min, i_max, i_sum, i_all, i_any, i_list, i_tuple, n_tup, n_fl, n_ref, n_dic, l_fl, l_ref, e_tup, e_fl, e_ref, it_tup, it_fl, it_str, it_ref, k_app, k_ext, k_pop, k_split, k_part, k_join, m_app, m_ext, m_pop, m_split, m_part, m_join, k_cntT, k_cntS, k_sw, k_up, m_cntT, m_cntS, m_sw, m_up, i_rev, y_str, y_int, y_bl, y_non, y_tup, y_fl, y_ref, y_dic, t_bl, t_int, t_non, t_tup, t_fl, t_ref, g_nm, g_tp, setN0, setN1, wipe0, wipe1, stay0, stay1, at_0, at_1, at_2, at_3, at_4, at_5, at_last, ix_0, ix_1, ix_2, cut_init, new_at, new_at1, app_lt, put_at, put_ne, W_ok, W_nx, W_rt, W_bk, W_ct, W_bad, W_badS, List.getElem?_cons_zero, List.getElem?_cons_succ, List.set_cons_zero, List.set_cons_succ, if_true, if_false, Bool.false_eq_true, true_and, and_true, decide_eq_true_eq, decide_eq_false_iff_not, forall_const, not_true_eq_false, not_false_eq_true, false_implies, implies_true, Option.some.injEq, exists_eq_left', exists_eq_left, exists_and_left, fin_nx, fin_rt, fin_bk, fin_ct, fin_ex, Bool.not_eq_true', Bool.not_eq_false', Bool.true_eq_false, reduceCtorEq, D.bl.injEq, D.int.injEq, D.str.injEq, D.ref.injEq, D.tup.injEq, D.fl.injEq, Ob.lst.injEq, Ob.dic.injEq, List.length_map, List.length_append, List.length_cons, List.length_nil, Nat.reduceAdd, Nat.reduceLT, Nat.reduceLeDiff, Nat.zero_lt_succ, false_and, and_false, exists_false, ty_ne, eq_self, Int.cast_ofNat_Int, Int.reduceEq, Int.reduceLT, Int.reduceLE, decide_true, decide_false, ofString_inj, String.reduceEq, Option.map_some, Bool.not_true, Bool.not_false, true_implies]
    refine ⟨by decide, by decide, by decide, by decide, by decide, ?_⟩
    have pl : ∀ d ∈ [D.tup [D.str (Str.ofString "a"), D.str (Str.ofString "a"), D.int 0], D.tup [D.str (Str.ofString "z9999999.999999"), D.str (Str.ofString "z9999999"), D.int 999999], D.tup [D.str (Str.ofString "n1.1"), D.str (Str.ofString "n1"), D.int 1], D.tup [D.str (Str.ofString "a00.10"), D.str (Str.ofString "a00"), D.int 10]], Atm d := by
      intro d hd
      simp only [List.mem_cons, List.not_mem_nil, or_false] at hd
      rcases hd with rfl | rfl | rfl | rfl
      · exact atm_lit (by decide +kernel) (by decide) (by decide +kernel) (by omega) (by omega)
      · exact atm_lit (by decide +kernel) (by decide) (by decide +kernel) (by omega) (by omega)
      · exact atm_lit (by decide +kernel) (by decide) (by decide +kernel) (by omega) (by omega)
      · exact atm_lit (by decide +kernel) (by decide) (by decide +kernel) (by omega) (by omega)
    have lpl : ([D.tup [D.str (Str.ofString "a"), D.str (Str.ofString "a"), D.int 0], D.tup [D.str (Str.ofString "z9999999.999999"), D.str (Str.ofString "z9999999"), D.int 999999], D.tup [D.str (Str.ofString "n1.1"), D.str (Str.ofString "n1"), D.int 1], D.tup [D.str (Str.ofString "a00.10"), D.str (Str.ofString "a00"), D.int 10]]).length = 4 := rfl
    generalize [D.tup [D.str (Str.ofString "a"), D.str (Str.ofString "a"), D.int 0], D.tup [D.str (Str.ofString "z9999999.999999"), D.str (Str.ofString "z9999999"), D.int 999999], D.tup [D.str (Str.ofString "n1.1"), D.str (Str.ofString "n1"), D.int 1], D.tup [D.str (Str.ofString "a00.10"), D.str (Str.ofString "a00"), D.int 10]] = plain at pl lpl
    generalize h17e : h15 ++ [Ob.lst plain] = h17
    have f17 : Eg.Fr [] h15 h17 := by rw [← h17e]; exact Fr.new
    have ep17 : h17[h15.length]? = some (.lst plain) := by rw [← h17e]; exact new_at
    have er17 := f17.at0 er15
    have el17 := f17.at0 el15
    simp only [c_law_13]
    rw [W_cons]
    simp only [ex_some, W_var, W_cst, W_bin, W_neg, W_cmp, W_chn, W_and, W_or, W_not, W_ite, W_tup, W_lst, W_dic, W_ix, W_sl, W_fn, W_bi, W_me, W_isi, W_lc, W_a0, W_a1, W_o0, W_o1, W_c0, W_c1, W_iof, W_ir1, W_ir2, W_truR, W_blR, T_and, T_or, T_not, T_var, T_cst, T_cmp, T_chn, T_fn, T_bi, T_isi, S_asg, S_unp, S_set, S_augA, S_augS, S_ex, S_ret, S_retN, S_ife, S_whl, S_fr, S_pas, S_brk, S_cnt, S_rse, b_add, b_sub, b_mul, b_div, b_mod, b_pow, b_str, b_tup, b_ref, c_eq, c_ne, c_in, c_ni, c_lt, c_le, c_gt, c_ge, c_ltS, c_is, c_isN, c_isB, q_int, q_str, q_bl, q_is, q_si, x_tup, x_fl, x_str, x_ref, x_dic, x_dicS, s_tup, s_str, s_fl, s_ref, i_len, i_int, i_intB, i_intS, i_abs, i_str, i_min, i_max, i_sum, i_all, i_any, i_list, i_tuple, n_tup, n_fl, n_ref, n_dic, l_fl, l_ref, e_tup, e_fl, e_ref, it_tup, it_fl, it_str, it_ref, k_app, k_ext, k_pop, k_split, k_part, k_join, m_app, m_ext, m_pop, m_split, m_part, m_join, k_cntT, k_cntS, k_sw, k_up, m_cntT, m_cntS, m_sw, m_up, i_rev, y_str, y_int, y_bl, y_non, y_tup, y_fl, y_ref, y_dic, t_bl, t_int, t_non, t_tup, t_fl, t_ref, g_nm, g_tp, setN0, setN1, wipe0, wipe1, stay0, stay1, at_0, at_1, at_2, at_3, at_4, at_5, at_last, ix_0, ix_1, ix_2, cut_init, new_at, new_at1, app_lt, put_at, put_ne, W_ok, W_nx, W_rt, W_bk, W_ct, W_bad, W_badS, List.getElem?_cons_zero, List.getElem?_cons_succ, List.set_cons_zero, List.set_cons_succ, if_true, if_false, Bool.false_eq_true, true_and, and_true, decide_eq_true_eq, decide_eq_false_iff_not, forall_const, not_true_eq_false, not_false_eq_true, false_implies, implies_true, Option.some.injEq, exists_eq_left', exists_eq_left, exists_and_left, fin_nx, fin_rt, fin_bk, fin_ct, fin_ex, Bool.not_eq_true', Bool.not_eq_false', Bool.true_eq_false, reduceCtorEq, D.bl.injEq, D.int.injEq, D.str.injEq, D.ref.injEq, D.tup.injEq, D.fl.injEq, Ob.lst.injEq, Ob.dic.injEq, List.length_map, List.length_append, List.length_cons, List.length_nil, Nat.reduceAdd, Nat.reduceLT, Nat.reduceLeDiff, Nat.zero_lt_succ, false_and, and_false, exists_false, ty_ne, eq_self, Int.cast_ofNat_Int, Int.reduceEq, Int.reduceLT, Int.reduceLE, decide_true, decide_false, ofString_inj, String.reduceEq, Option.map_some, Bool.not_true, Bool.not_false, true_implies, er17, el17]
    refine ⟨lim_of (by omega), ?_⟩
    generalize h18e : h17 ++ [Ob.lst (row ++ lot)] = h18
    have f18 : Eg.Fr [] h17 h18 := by rw [← h18e]; exact Fr.new
    have e18 : h18[h17.length]? = some (.lst (row ++ lot)) := by rw [← h18e]; exact new_at
    have ep18 := f18.at0 ep17
    simp only [ex_some, W_var, W_cst, W_bin, W_neg, W_cmp, W_chn, W_and, W_or, W_not, W_ite, W_tup, W_lst, W_dic, W_ix, W_sl, W_fn, W_bi, W_me, W_isi, W_lc, W_a0, W_a1, W_o0, W_o1, W_c0, W_c1, W_iof, W_ir1, W_ir2, W_truR, W_blR, T_and, T_or, T_not, T_var, T_cst, T_cmp, T_chn, T_fn, T_bi, T_isi, S_asg, S_unp, S_set, S_augA, S_augS, S_ex, S_ret, S_retN, S_ife, S_whl, S_fr, S_pas, S_brk, S_cnt, S_rse, b_add, b_sub, b_mul, b_div, b_mod, b_pow, b_str, b_tup, b_ref, c_eq, c_ne, c_in, c_ni, c_lt, c_le, c_gt, c_ge, c_ltS, c_is, c_isN, c_isB, q_int, q_str, q_bl, q_is, q_si, x_tup, x_fl, x_str, x_ref, x_dic, x_dicS, s_tup, s_str, s_fl, s_ref, i_len, i_int, i_intB, i_intS, i_abs, i_str, i_min, i_max, i_sum, i_all, i_any, i_list, i_tuple, n_tup, n_fl, n_ref, n_dic, l_fl, l_ref, e_tup, e_fl, e_ref, it_tup, it_fl, it_str, it_ref, k_app, k_ext, k_pop, k_split, k_part, k_join, m_app, m_ext, m_pop, m_split, m_part, m_join, k_cntT, k_cntS, k_sw, k_up, m_cntT, m_cntS, m_sw, m_up, i_rev, y_str, y_int, y_bl, y_non, y_tup, y_fl, y_ref, y_dic, t_bl, t_int, t_non, t_tup, t_fl, t_ref, g_nm, g_tp, setN0, setN1, wipe0, wipe1, stay0, stay1, at_0, at_1, at_2, at_3, at_4, at_5, at_last, ix_0, ix_1, ix_2, cut_init, new_at, new_at1, app_lt, put_at, put_ne, W_ok, W_nx, W_rt, W_bk, W_ct, W_bad, W_badS, List.getElem?_cons_zero, List.getElem?_cons_succ, List.set_cons_zero, List.set_cons_succ, if_true, if_false, Bool.false_eq_true, true_and, and_true, decide_eq_true_eq, decide_eq_false_iff_not, forall_const, not_true_eq_false, not_false_eq_true, false_implies, implies_true, Option.some.injEq, exists_eq_left', exists_eq_left, exists_and_left, fin_nx, fin_rt, fin_bk, fin_ct, fin_ex, Bool.not_eq_true', Bool.not_eq_false', Bool.true_eq_false, reduceCtorEq, D.bl.injEq, D.int.injEq, D.str.injEq, D.ref.injEq, D.tup.injEq, D.fl.injEq, Ob.lst.injEq, Ob.dic.injEq, List.length_map, List.length_append, List.length_cons, List.length_nil, Nat.reduceAdd, Nat.reduceLT, Nat.reduceLeDiff, Nat.zero_lt_succ, false_and, and_false, exists_false, ty_ne, eq_self, Int.cast_ofNat_Int, Int.reduceEq, Int.reduceLT, Int.reduceLE, decide_true, decide_false, ofString_inj, String.reduceEq, Option.map_some, Bool.not_true, Bool.not_false, true_implies, e18, ep18]
    refine ⟨lim_of (by omega), ?_⟩
    have f19 : Eg.Fr [] h18 (h18 ++ [Ob.lst (row ++ lot ++ plain)]) := Fr.new
    refine (apart_ok (n := 96) (new_at (h := h18) (o := Ob.lst (row ++ lot ++ plain))) ?_).imp ?_
    · intro d hd
      rcases List.mem_append.mp hd with hd | hd
      · rcases List.mem_append.mp hd with hd | hd
        · exact rowa d hd
        · exact lota d hd
      · exact pl d hd
    rintro _ h20 ⟨rfl, rfl⟩
    simp only [ex_some, W_var, W_cst, W_bin, W_neg, W_cmp, W_chn, W_and, W_or, W_not, W_ite, W_tup, W_lst, W_dic, W_ix, W_sl, W_fn, W_bi, W_me, W_isi, W_lc, W_a0, W_a1, W_o0, W_o1, W_c0, W_c1, W_iof, W_ir1, W_ir2, W_truR, W_blR, T_and, T_or, T_not, T_var, T_cst, T_cmp, T_chn, T_fn, T_bi, T_isi, S_asg, S_unp, S_set, S_augA, S_augS, S_ex, S_ret, S_retN, S_ife, S_whl, S_fr, S_pas, S_brk, S_cnt, S_rse, b_add, b_sub, b_mul, b_div, b_mod, b_pow, b_str, b_tup, b_ref, c_eq, c_ne, c_in, c_ni, c_lt, c_le, c_gt, c_ge, c_ltS, c_is, c_isN, c_isB, q_int, q_str, q_bl, q_is, q_si, x_tup, x_fl, x_str, x_ref, x_dic, x_dicS, s_tup, s_str, s_fl, s_ref, i_len, i_int, i_intB, i_intS, i_abs, i_str, i_min, i_max, i_sum, i_all, i_any, i_list, i_tuple, n_tup, n_fl, n_ref, n_dic, l_fl, l_ref, e_tup, e_fl, e_ref, it_tup, it_fl, it_str, it_ref, k_app, k_ext, k_pop, k_split, k_part, k_join, m_app, m_ext, m_pop, m_split, m_part, m_join, k_cntT, k_cntS, k_sw, k_up, m_cntT, m_cntS, m_sw, m_up, i_rev, y_str, y_int, y_bl, y_non, y_tup, y_fl, y_ref, y_dic, t_bl, t_int, t_non, t_tup, t_fl, t_ref, g_nm, g_tp, setN0, setN1, wipe0, wipe1, stay0, stay1, at_0, at_1, at_2, at_3, at_4, at_5, at_last, ix_0, ix_1, ix_2, cut_init, new_at, new_at1, app_lt, put_at, put_ne, W_ok, W_nx, W_rt, W_bk, W_ct, W_bad, W_badS, List.getElem?_cons_zero, List.getElem?_cons_succ, List.set_cons_zero, List.set_cons_succ, if_true, if_false, Bool.false_eq_true, true_and, and_true, decide_eq_true_eq, decide_eq_false_iff_not, forall_const, not_true_eq_false, not_false_eq_true, false_implies, implies_true, Option.some.injEq, exists_eq_left', exists_eq_left, exists_and_left, fin_nx, fin_rt, fin_bk, fin_ct, fin_ex, Bool.not_eq_true', Bool.not_eq_false', Bool.true_eq_false, reduceCtorEq, D.bl.injEq, D.int.injEq, D.str.injEq, D.ref.injEq, D.tup.injEq, D.fl.injEq, Ob.lst.injEq, Ob.dic.injEq, List.length_map, List.length_append, List.length_cons, List.length_nil, Nat.reduceAdd, Nat.reduceLT, Nat.reduceLeDiff, Nat.zero_lt_succ, false_and, and_false, exists_false, ty_ne, eq_self, Int.cast_ofNat_Int, Int.reduceEq, Int.reduceLT, Int.reduceLE, decide_true, decide_false, ofString_inj, String.reduceEq, Option.map_some, Bool.not_true, Bool.not_false, true_implies]
    have fz := ((f16.trans f17).trans f18).trans f19
    refine (measured_ok (n := 49) kb1 (by omega) (fz.at0 et13) (fz.at0 ea13)).imp ?_
    rintro _ h21 ⟨rfl, _⟩
    simp only [ex_some, W_var, W_cst, W_bin, W_neg, W_cmp, W_chn, W_and, W_or, W_not, W_ite, W_tup, W_lst, W_dic, W_ix, W_sl, W_fn, W_bi, W_me, W_isi, W_lc, W_a0, W_a1, W_o0, W_o1, W_c0, W_c1, W_iof, W_ir1, W_ir2, W_truR, W_blR, T_and, T_or, T_not, T_var, T_cst, T_cmp, T_chn, T_fn, T_bi, T_isi, S_asg, S_unp, S_set, S_augA, S_augS, S_ex, S_ret, S_retN, S_ife, S_whl, S_fr, S_pas, S_brk, S_cnt, S_rse, b_add, b_sub, b_mul, b_div, b_mod, b_pow, b_str, b_tup, b_ref, c_eq, c_ne, c_in, c_ni, c_lt, c_le, c_gt, c_ge, c_ltS, c_is, c_isN, c_isB, q_int, q_str, q_bl, q_is, q_si, x_tup, x_fl, x_str, x_ref, x_dic, x_dicS, s_tup, s_str, s_fl, s_ref, i_len, i_int, i_intB, i_intS, i_abs, i_str, i_min, i_max, i_sum, i_all, i_any, i_list, i_tuple, n_tup, n_fl, n_ref, n_dic, l_fl, l_ref, e_tup, e_fl, e_ref, it_tup, it_fl, it_str, it_ref, k_app, k_ext, k_pop, k_split, k_part, k_join, m_app, m_ext, m_pop, m_split, m_part, m_join, k_cntT, k_cntS, k_sw, k_up, m_cntT, m_cntS, m_sw, m_up, i_rev, y_str, y_int, y_bl, y_non, y_tup, y_fl, y_ref, y_dic, t_bl, t_int, t_non, t_tup, t_fl, t_ref, g_nm, g_tp, setN0, setN1, wipe0, wipe1, stay0, stay1, at_0, at_1, at_2, at_3, at_4, at_5, at_last, ix_0, ix_1, ix_2, cut_init, new_at, new_at1, app_lt, put_at, put_ne, W_ok, W_nx, W_rt, W_bk, W_ct, W_bad, W_badS, List.getElem?_cons_zero, List.getElem?_cons_succ, List.set_cons_zero, List.set_cons_succ, if_true, if_false, Bool.false_eq_true, true_and, and_true, decide_eq_true_eq, decide_eq_false_iff_not, forall_const, not_true_eq_false, not_false_eq_true, false_implies, implies_true, Option.some.injEq, exists_eq_left', exists_eq_left, exists_and_left, fin_nx, fin_rt, fin_bk, fin_ct, fin_ex, Bool.not_eq_true', Bool.not_eq_false', Bool.true_eq_false, reduceCtorEq, D.bl.injEq, D.int.injEq, D.str.injEq, D.ref.injEq, D.tup.injEq, D.fl.injEq, Ob.lst.injEq, Ob.dic.injEq, List.length_map, List.length_append, List.length_cons, List.length_nil, Nat.reduceAdd, Nat.reduceLT, Nat.reduceLeDiff, Nat.zero_lt_succ, false_and, and_false, exists_false, ty_ne, eq_self, Int.cast_ofNat_Int, Int.reduceEq, Int.reduceLT, Int.reduceLE, decide_true, decide_false, ofString_inj, String.reduceEq, Option.map_some, Bool.not_true, Bool.not_false, true_implies]
end
def wfN : Nat := 100
def eclN : Nat → Value := ecl0
theorem law_pure (ns : List Int) (hl : ns.length ≤ 63) (hb : ∀ z ∈ ns, Builtin.Int.intBits z ≤ 1048576) : ∃ h', callN P wfN 100 19 [.fl (ns.map D.int)] [] = .ok (.bl true) h' := by
  obtain ⟨d, h', e, rfl⟩ := (law_ok (wf := wfN) (ns := ns)).get
  exact ⟨h', e⟩
end Lk00
set_option maxHeartbeats 0
namespace Lk00
open PySem PySem.Spec PyProof.Rows L2 Eg
abbrev R : PySem.W.OpenRow := PySem.W.OpenLaw.row PySem.Challenge.rw_fractionwords_k00_kind_measures
def fa : List He.Fa := faOf ds glb blt
def fn : List He.DefD := fnOfs ds
abbrev hk : PySem.W.Hook := He.hookD 4 fa fn
def ob (s : PySem.W.SharedT) : He.AlD := He.obsDG 4 fa fn (HandSHeadRun.getT s)
theorem ob_eq (s : PySem.W.SharedT) : ob s = hk.obs s.abs := He.obsDG_eq (HandSHeadRun.getT_eq s)
def loose : List Str := ["size_of", "signs_of", "atoms_of", "count_of", "base_of", "atom_number", "_law_cell", "_law_mix", "_law_pool", "_law_draw", "_law_numbered", "_law_fresh", "_law_lot", "_law_row", "_law_bracket", "_law_is_integer", "_law_same_texts", "_law_measured", "_law_apart"]
theorem run (w : World) : HandSHeadRun.RunEq R (PySem.W.view R.prog [21]) hk ob 3000 loose w := by
  intro os
  kernel_rfl
end Lk00
open PySem PySem.W PySem.Calls PyProof.Rows
theorem PySem.Challenge.cw_fractionwords_k00_kind_measures_holds : PySem.Challenge.rw_fractionwords_k00_kind_measures.Holds := by
  w_on; o_law
  refine HandSHeadRun.head_any (r := OpenLaw.row PySem.Challenge.rw_fractionwords_k00_kind_measures) (q := view (OpenLaw.row PySem.Challenge.rw_fractionwords_k00_kind_measures).prog [21]) (H := Lk00.hk) (ob := Lk00.ob) (M := 3000) (loose := Lk00.loose) (d := HandSHeadRun.topDef (OpenLaw.row PySem.Challenge.rw_fractionwords_k00_kind_measures).prog 21) (kwd := []) Lk00.ob_eq
    (by kernel_rfl) (fun s => by kernel_rfl) Lk00.run (by kernel_rfl) (by kernel_rfl) (by kernel_rfl) (by rfl) (by first | assumption | decide +kernel) (by decide +kernel) ⟨rfl, rfl, rfl, rfl, rfl, by decide +kernel⟩ ?hw ?hc
  case hw => w_witness2
  case hc =>
    refine Eg.walk_eg (lw := PySem.Challenge.rw_fractionwords_k00_kind_measures) (top := 63) (depth := 100) (pn := "script") rfl (by decide) (by kernel_rfl) ⟨rfl, by decide, by decide⟩ ?_
    intro w mg fa h Y G hmg0
    obtain ⟨K, KX, c⟩ := Y
    have hmg : mg ("law" : PySem.Str) = some (.ref fa) := by
      have e : (HandSHeadRun.topDef (OpenLaw.row PySem.Challenge.rw_fractionwords_k00_kind_measures).prog 21).name = ("law" : PySem.Str) := by kernel_rfl
      rw [← e]
      exact hmg0
    obtain ⟨fd, hb, hF⟩ := Eg.law_facts (P := (PySem.Challenge.rw_fractionwords_k00_kind_measures).prog) (w := w) (wf := Lk00.wfN) (k := 100) (L := 19) (ecl := Lk00.eclN) KX G c Lk00.ok_all (by decide) (dL := Lk00.d_law) rfl rfl hmg
    exact ⟨K, fd, _, _, _, KX, hb, Lk00.law_pure, hF⟩
