import PyProof.Rows.All
import HandS.ForMost
import HandS.Exc
import HandS.Deep
import HandS.TupAny
import HandS.Conv
import HandS.Wide
import HandS.WordsDict
import HandS.IsInst
import HandS.Defaults
import HandS.More
import HandS.Replace
import HandS.CallSlots
import HandS.HeadHook1
import HandS.Style
import HandS.ExcOwn
import HandS.WordsExc
import HandS.RevTup
import HandS.Rev
import HandS.Iter
import HandS.Head0
import HandS.Head1
import HandS.Head2
import HandS.HeadEnd
import HandS.HeadHook2
import HandS.HeadHook3
import HandS.HeadHook4
import HandS.Codes
import PyProof.Rows.StrJoinMade
import PyProof.ReprLen
import KE.KStateDown
import PySem.Challenge.RW_bitshelves_k01_keys_and_their_digits
set_option Elab.async false
set_option linter.all false
set_option maxRecDepth 100000
/-! an interpreter for the part of Python that the program and the laws use: values are trees, what changes stands in a store -/
namespace Pv
open PySem PySem.Spec PyProof.Rows L2

inductive D where
  | non | bl (b : Bool) | int (i : Int) | str (s : Str) | tup (ds : List D) | fzl (ds : List D) | ref (i : Nat)
  deriving Inhabited
inductive Cell where
  | lst (ds : List D)
  | dic (lk : Bool) (kvs : List (Key × D))
  | ins (c : Str) (fs : List (Str × D))
  deriving Inhabited
abbrev Store := List Cell
abbrev Env := List (Option D)
inductive R (α : Type) where
  | ok (a : α) (S : Store)
  | ex (c : Str) (fs : List (Str × D)) (S : Store)
  | no
def R.bind {α β : Type} (r : R α) (f : α → Store → R β) : R β := match r with
  | .ok a S => f a S
  | .ex c fs S => .ex c fs S
  | .no => .no
@[simp] theorem R.bind_ok {α β : Type} (a : α) (S : Store) (f : α → Store → R β) : (R.ok a S).bind f = f a S := rfl
@[simp] theorem R.bind_ex {α β : Type} (c : Str) (fs : List (Str × D)) (S : Store) (f : α → Store → R β) : (R.ex c fs S : R α).bind f = .ex c fs S := rfl
@[simp] theorem R.bind_no {α β : Type} (f : α → Store → R β) : (R.no : R α).bind f = .no := rfl

/-! ### the small syntax -/
inductive B where
  | len | abs | all | sum | min1 | max1 | min2 | max2 | list | tuple | dict | int | str | repr | sorted
inductive M where
  | append | extend | pop0 | pop1 | pop2 | get1 | get2 | index | items | values | join | split | update | upper | clear | reverse
inductive Ty where
  | int | bool | str | tuple | list | dict
inductive IK where
  | plain | range | rev | zip
inductive Tg where
  | nm (i : Nat) | tp (is : List Nat)
mutual
inductive E where
  | var (i : Nat) | cst (d : D) | glb (x : Str) (d : D)
  | bin (op : Operator) (a b : E) | neg (a : E) | not (a : E) | and (a b : E) | or (a b : E) | ite (t a b : E)
  | cmp (op : CmpOp) (a b : E) | chn (o p : CmpOp) (a b c : E)
  | tup (es : Es) | lst (es : Es) | dic (es : Es)
  | sub (a i : E) | slc (a : E) (lo hi : Op) | rvs (a : E)
  | cal (f : Str) (es : Es) | blt (f : B) (es : Es) | mth (m : M) (a : E) (es : Es) | isi (a : E) (t : Ty)
  | lc (elt : E) (tg : Tg) (ik : IK) (es : Es) (cd : Op) (own : List Nat)
inductive Es where
  | nil | cons (e : E) (es : Es)
inductive Op where
  | no | so (e : E)
end
mutual
inductive AT where
  | nm (i : Nat) | tp (ts : ATs) | sub (a i : E)
inductive ATs where
  | nil | cons (t : AT) (ts : ATs)
end
mutual
inductive Stm where
  | asg (t : AT) (e : E) | par (i j : Nat) (a b : E)
  | ex (e : E) | ret (e : E) | retN
  | ife (t : E) (a b : Stms)
  | for (t : Tg) (ik : IK) (es : Es) (b : Stms)
  | whl (t : E) (b : Stms)
  | brk | cnt | pas
inductive Stms where
  | nil | cons (s : Stm) (ss : Stms)
end

/-! ### data -/
def alloc (c : Cell) (S : Store) : R D := .ok (.ref S.length) (S ++ [c])
/-- the tree that a value stands for -/
def pd (S : Store) : Nat → D → Option PyData
  | 0, _ => none
  | _ + 1, .non => some .none
  | _ + 1, .bl b => some (.bool b)
  | _ + 1, .int i => some (.int i)
  | _ + 1, .str s => some (.str s)
  | n + 1, .tup ds => (ds.mapM (pd S n)).map .tuple
  | n + 1, .fzl ds => (ds.mapM (pd S n)).map .list
  | n + 1, .ref i => match S[i]? with
    | some (.lst ds) => (ds.mapM (pd S n)).map .list
    | _ => none
def eqD (S : Store) (x y : D) : Option Bool := match pd S 60 x, pd S 60 y with
  | some a, some b => some (PyData.eqv a b)
  | _, _ => none
def keyD : D → Option Key
  | .int i => some (.inl i)
  | .str s => some (.inr s)
  | _ => none
def sign (c : Nat) : D := .str ⟨#[c]⟩
def dget {α : Type} (kvs : List (Key × α)) (k : Key) : Option α := (kvs.find? fun kv => decide (kv.1 = k)).map (·.2)
def dput {α : Type} (kvs : List (Key × α)) (k : Key) (d : α) : List (Key × α) :=
  if (kvs.any fun kv => decide (kv.1 = k)) = true then kvs.map (fun kv => if kv.1 = k then (kv.1, d) else kv) else kvs ++ [(k, d)]
def ddrop {α : Type} (kvs : List (Key × α)) (k : Key) : List (Key × α) := kvs.filter fun kv => decide (kv.1 ≠ k)
def dkey : Key → D
  | .inl i => .int i
  | .inr s => .str s
def inD (S : Store) (x y : D) : Option Bool := match y with
  | .str z => (match x with
    | .str s => (match s.cps.toList with
      | [c] => some (decide (c ∈ z.cps.toList))
      | _ => none)
    | _ => none)
  | .ref i => (match S[i]? with
    | some (.lst ds) => (match pd S 60 x, ds.mapM (pd S 59) with
      | some a, some bs => some (bs.any fun b => PyData.eqv b a)
      | _, _ => none)
    | some (.dic _ kvs) => (match keyD x with
      | some k => some (dget kvs k).isSome
      | none => none)
    | _ => none)
  | .tup ds => (match pd S 60 x, ds.mapM (pd S 59) with
      | some a, some bs => some (bs.any fun b => PyData.eqv b a)
      | _, _ => none)
  | _ => none
def isNon : D → Bool
  | .non => true
  | _ => false
def retB (o : Option Bool) (S : Store) : R D := match o with
  | some b => .ok (.bl b) S
  | none => .no

/-! ### operators -/
def binop (op : Operator) (x y : D) (S : Store) : R D := match op, x, y with
  | .Add, .int i, .int j => .ok (.int (i + j)) S
  | .Add, .str a, .str b => if a.length + b.length ≤ sizeLine then .ok (.str (a ++ b)) S else .no
  | .Add, .tup a, .tup b => if a.length + b.length ≤ sizeLine then .ok (.tup (a ++ b)) S else .no
  | .Add, .ref i, .ref j => (match S[i]?, S[j]? with
    | some (.lst a), some (.lst b) => if a.length + b.length ≤ sizeLine then alloc (.lst (a ++ b)) S else .no
    | _, _ => .no)
  | .Sub, .int i, .int j => .ok (.int (i - j)) S
  | .Mult, .int i, .int j => if (-(2 ^ 64) < i ∧ i < 2 ^ 64) ∨ (-(2 ^ 64) < j ∧ j < 2 ^ 64) then .ok (.int (i * j)) S else .no
  | .Mult, .str a, .int j => if -1000 ≤ j ∧ j ≤ 1000 ∧ a.length ≤ 1000 then .ok (.str ⟨(List.replicate j.toNat a.cps.toList).flatten.toArray⟩) S else .no
  | .FloorDiv, .int i, .int j => if 0 < j ∧ j < 1267650600228229401496703205376 then .ok (.int (i / j)) S else .no
  | .Mod, .int i, .int j => if 0 < j then .ok (.int (i % j)) S else .no
  | .Pow, .int i, .int j => if 0 ≤ j ∧ j ≤ 1000 ∧ -(2 ^ 63) < i ∧ i < 2 ^ 63 then .ok (.int (i ^ j.toNat)) S else .no
  | _, _, _ => .no
def ltD : D → D → Option Bool
  | .int i, .int j => some (decide (i < j))
  | .str a, .str b => some (decide (a.cps.toList < b.cps.toList))
  | _, _ => none
def cmpop (op : CmpOp) (x y : D) (S : Store) : R D := match op with
  | .Eq => retB (eqD S x y) S
  | .NotEq => retB ((eqD S x y).map fun b => !b) S
  | .Lt => retB (ltD x y) S
  | .Gt => retB (ltD y x) S
  | .LtE => retB ((ltD y x).map fun b => !b) S
  | .GtE => retB ((ltD x y).map fun b => !b) S
  | .Is => (match y with
    | .non => .ok (.bl (isNon x)) S
    | _ => .no)
  | .IsNot => (match y with
    | .non => .ok (.bl (!isNon x)) S
    | _ => .no)
  | .In => retB (inD S x y) S
  | .NotIn => retB ((inD S x y).map fun b => !b) S
def subD (x i : D) (S : Store) : R D := match x, i with
  | .tup ds, .int k => (match atI ds k with
    | some d => .ok d S
    | none => .no)
  | .fzl ds, .int k => (match atI ds k with
    | some d => .ok d S
    | none => .no)
  | .str z, .int k => if z.length ≤ sizeLine then (match atI z.cps.toList k with
    | some c => .ok (sign c) S
    | none => .no) else .no
  | .ref r, k => (match S[r]? with
    | some (.lst ds) => (match k with
      | .int k => (match atI ds k with
        | some d => .ok d S
        | none => .no)
      | _ => .no)
    | some (.dic _ kvs) => (match keyD k with
      | some k => (match dget kvs k with
        | some d => .ok d S
        | none => .no)
      | none => .no)
    | _ => .no)
  | _, _ => .no
def cutD {α : Type} (xs : List α) (lo hi : Option Int) : List α := (xs.drop (HT.sIx xs.length 0 lo)).take (HT.sIx xs.length xs.length hi - HT.sIx xs.length 0 lo)
def slcD (x : D) (lo hi : Option Int) (S : Store) : R D := match x with
  | .tup ds => .ok (.tup (cutD ds lo hi)) S
  | .fzl ds => alloc (.lst (cutD ds lo hi)) S
  | .str z => if z.length ≤ sizeLine then .ok (.str (cutS z lo hi)) S else .no
  | .ref r => (match S[r]? with
    | some (.lst ds) => alloc (.lst (cutD ds lo hi)) S
    | _ => .no)
  | _ => .no
def rvD (x : D) (S : Store) : R D := match x with
  | .tup ds => .ok (.tup ds.reverse) S
  | .fzl ds => alloc (.lst ds.reverse) S
  | .ref r => (match S[r]? with
    | some (.lst ds) => alloc (.lst ds.reverse) S
    | _ => .no)
  | _ => .no
def isiD (x : D) (t : Ty) (S : Store) : Option Bool := match x with
  | .non => some false
  | .bl _ => some (match t with | .int => true | .bool => true | _ => false)
  | .int _ => some (match t with | .int => true | _ => false)
  | .str _ => some (match t with | .str => true | _ => false)
  | .tup _ => some (match t with | .tuple => true | _ => false)
  | .fzl _ => some (match t with | .list => true | _ => false)
  | .ref r => match S[r]? with
    | some (.lst _) => some (match t with | .list => true | _ => false)
    | some (.dic _ _) => some (match t with | .dict => true | _ => false)
    | _ => none

/-! ### built-ins -/
def intsD : List D → Option (List Int)
  | [] => some []
  | .int i :: r => (intsD r).map (i :: ·)
  | _ => none
def blsD : List D → Option (List Bool)
  | [] => some []
  | .bl b :: r => (blsD r).map (b :: ·)
  | _ => none
def strsD : List D → Option (List Str)
  | [] => some []
  | .str s :: r => (strsD r).map (s :: ·)
  | _ => none
/-- what list(..), tuple(..), a for walks -/
def seqD (x : D) (S : Store) : Option (List D) := match x with
  | .tup ds => some ds
  | .fzl ds => some ds
  | .ref r => (match S[r]? with
    | some (.lst ds) => some ds
    | some (.dic _ kvs) => some (kvs.map fun p => dkey p.1)
    | _ => none)
  | _ => none
def leS (a b : Str) : Bool := !decide (b.cps.toList < a.cps.toList)
def sortD (ds : List D) : Option (List D) := match strsD ds with
  | some ss => some ((ss.mergeSort leS).map .str)
  | none => match intsD ds with
    | some is => some ((is.mergeSort fun a b => decide (a ≤ b)).map .int)
    | none => none
def pairsD : List D → Option (List (Key × D))
  | [] => some []
  | .tup [k, d] :: r => (match keyD k, pairsD r with
    | some k, some ps => some ((k, d) :: ps)
    | _, _ => none)
  | _ => none
def mergeD (acc more : List (Key × D)) : List (Key × D) := more.foldl (fun acc kv => dput acc kv.1 kv.2) acc
def bi (f : B) (ds : List D) (S : Store) : R D := match f, ds with
  | .len, [.str s] => if s.length ≤ sizeLine then .ok (.int s.length) S else .no
  | .len, [x] => (match seqD x S with
    | some xs => .ok (.int xs.length) S
    | none => .no)
  | .abs, [.int i] => .ok (.int (if i < 0 then -i else i)) S
  | .all, [.ref r] => (match S[r]? with
    | some (.lst xs) => (match blsD xs with
      | some bs => .ok (.bl (bs.all id)) S
      | none => .no)
    | _ => .no)
  | .sum, [.ref r] => (match S[r]? with
    | some (.lst xs) => (match intsD xs with
      | some bs => .ok (.int bs.sum) S
      | none => .no)
    | _ => .no)
  | .min2, [.int i, .int j] => .ok (.int (if j < i then j else i)) S
  | .max2, [.int i, .int j] => .ok (.int (if j > i then j else i)) S
  | .repr, [x] => (match pd S 60 x with
    | some p => if p.showable = true ∧ p.shown.length ≤ sizeLine ∧ PyData.strOk p.shown = true then .ok (.str p.shown) S else .no
    | none => .no)
  | .list, [.str z] => if z.length ≤ sizeLine then alloc (.lst (z.cps.toList.map sign)) S else .no
  | .list, [x] => (match seqD x S with
    | some xs => alloc (.lst xs) S
    | none => .no)
  | .tuple, [.tup xs] => .ok (.tup xs) S
  | .tuple, [.fzl xs] => .ok (.tup xs) S
  | .tuple, [.ref r] => (match S[r]? with
    | some (.lst xs) => .ok (.tup xs) S
    | _ => .no)
  | .dict, [.ref r] => (match S[r]? with
    | some (.lst xs) => (match pairsD xs with
      | some ps => alloc (.dic false (mergeD [] ps)) S
      | none => .no)
    | some (.dic _ kvs) => alloc (.dic false kvs) S
    | _ => .no)
  | .int, [.int i] => .ok (.int i) S
  | .int, [.bl b] => .ok (.int (if b then 1 else 0)) S
  | .sorted, [.ref r] => (match seqD (.ref r) S with
    | some xs => (match sortD xs with
      | some ys => if xs.length < 64 then alloc (.lst ys) S else .no
      | none => .no)
    | none => .no)
  | _, _ => .no
def mi (m : M) (x : D) (ds : List D) (S : Store) : R D := match m, x, ds with
  | .append, .ref r, [d] => (match S[r]? with
    | some (.lst xs) => if xs.length < sizeLine then .ok .non (S.set r (.lst (xs ++ [d]))) else .no
    | _ => .no)
  | .extend, .ref r, [.ref q] => (match S[r]?, S[q]? with
    | some (.lst xs), some (.lst ys) => if xs.length + ys.length ≤ sizeLine ∧ r ≠ q then .ok .non (S.set r (.lst (xs ++ ys))) else .no
    | _, _ => .no)
  | .index, .str z, [.str s] => (match Builtin.Str.occurrences z s 0 z.length 1 with
    | i :: _ => .ok (.int (i : Nat)) S
    | [] => .no)
  | .index, .ref r, [d] => (match S[r]? with
    | some (.lst xs) => (match pd S 60 d, xs.mapM (pd S 59) with
      | some a, some bs => (match bs.findIdx? (fun b => PyData.eqv b a) with
        | some j => .ok (.int (j : Nat)) S
        | none => .no)
      | _, _ => .no)
    | _ => .no)
  | .upper, .str z, [] => if z.length ≤ 5592405 ∧ PyData.strOk (Txt.upper z) = true then .ok (.str (Txt.upper z)) S else .no
  | .get1, .ref r, [k] => (match S[r]? with
    | some (.dic false kvs) => (match keyD k with
      | some k => .ok ((dget kvs k).getD .non) S
      | none => .no)
    | _ => .no)
  | .get2, .ref r, [k, d] => (match S[r]? with
    | some (.dic false kvs) => (match keyD k with
      | some k => .ok ((dget kvs k).getD d) S
      | none => .no)
    | _ => .no)
  | .pop0, .ref r, [] => (match S[r]? with
    | some (.lst xs) => (match xs[xs.length - 1]? with
      | some d => .ok d (S.set r (.lst xs.dropLast))
      | none => .no)
    | _ => .no)
  | .pop1, .ref r, [k] => (match S[r]? with
    | some (.dic false kvs) => (match keyD k with
      | some k => (match dget kvs k with
        | some d => .ok d (S.set r (.dic false (ddrop kvs k)))
        | none => .no)
      | none => .no)
    | _ => .no)
  | .pop2, .ref r, [k, e] => (match S[r]? with
    | some (.dic false kvs) => (match keyD k with
      | some k => (match dget kvs k with
        | some d => .ok d (S.set r (.dic false (ddrop kvs k)))
        | none => .ok e S)
      | none => .no)
    | _ => .no)
  | .clear, .ref r, [] => (match S[r]? with
    | some (.lst _) => .ok .non (S.set r (.lst []))
    | some (.dic false _) => .ok .non (S.set r (.dic false []))
    | _ => .no)
  | .reverse, .ref r, [] => (match S[r]? with
    | some (.lst xs) => .ok .non (S.set r (.lst xs.reverse))
    | _ => .no)
  | .join, .str z, [.ref r] => (match S[r]? with
    | some (.lst xs) => (match strsD xs with
      | some ys => if (ys.map (·.length)).sum + ys.length * z.length ≤ 16777216 then .ok (.str (Txt.join z ys)) S else .no
      | none => .no)
    | _ => .no)
  | _, _, _ => .no

/-- a method is asked of a thing of its kind -/
def mtOk (m : M) (x : D) (S : Store) : Bool := match x with
  | .str _ => (match m with
    | .index => true | .join => true | .upper => true | _ => false)
  | .ref r => (match S[r]?, m with
    | some (.lst _), .append => true
    | some (.lst _), .extend => true
    | some (.lst _), .pop0 => true
    | some (.lst _), .index => true
    | some (.dic false _), .get1 => true
    | some (.dic false _), .get2 => true
    | some (.dic false _), .pop1 => true
    | some (.dic false _), .pop2 => true
    | _, _ => false)
  | _ => false

/-! ### iteration -/
def iter (ik : IK) (ds : List D) (S : Store) : Option (List D × Option Nat) := match ik, ds with
  | .plain, [.tup xs] => some (xs, none)
  | .plain, [.fzl xs] => some (xs, none)
  | .plain, [.str z] => some (z.cps.toList.map sign, none)
  | .plain, [.ref r] => (match S[r]? with
    | some (.lst xs) => some (xs, some r)
    | _ => none)
  | .range, [.int j] => if j ≤ 16777216 ∧ -16777216 ≤ j then some ((List.range j.toNat).map fun (k : Nat) => D.int (0 + k), none) else none
  | .range, [.int i, .int j] => if j ≤ 16777216 ∧ -16777216 ≤ j ∧ i ≤ 16777216 ∧ -16777216 ≤ i then some ((List.range (j - i).toNat).map fun (k : Nat) => D.int (i + k), none) else none
  | .rev, [.str z] => if z.length ≤ sizeLine then some ((z.cps.toList.map sign).reverse, none) else none
  | _, _ => none
/-- the walked list stands as it stood -/
def stands (g : Option Nat) (xs : List D) (S : Store) : Prop := match g with
  | none => True
  | some r => S[r]? = some (.lst xs)
def bindT (t : Tg) (d : D) (ρ : Env) : Option Env := match t with
  | .nm i => if i < ρ.length then some (ρ.set i (some d)) else none
  | .tp is => match d with
    | .tup ds => if ds.length = is.length ∧ ∀ i ∈ is, i < ρ.length then some ((is.zip ds).foldl (fun ρ p => ρ.set p.1 (some p.2)) ρ) else none
    | _ => none
def wipeE (ρ : Env) : List Nat → Env
  | [] => ρ
  | v :: vs => (wipeE ρ vs).set v none
open Classical in
noncomputable def lcGo (f : D → Store → R (Option D)) (g : Option Nat) (all : List D) : List D → Store → R (List D)
  | [], S => if stands g all S then .ok [] S else .no
  | x :: xs, S => if stands g all S then (f x S).bind fun o S1 => (lcGo f g all xs S1).bind fun ys S2 => .ok (match o with
    | some y => y :: ys
    | none => ys) S2 else .no
/-- what a comprehension raises isn't carried -/
def R.noex {α : Type} : R α → R α
  | .ok a S => .ok a S
  | _ => .no
abbrev Cl := Str → List D → Store → R D
def isB (x : D) (S : Store) (k : Bool → R α) : R α := match x with
  | .bl b => k b
  | _ => .no

mutual
noncomputable def ev (cl : Cl) : E → Env → Store → R D
  | .var i, ρ, S => match ρ[i]? with
    | some (some d) => .ok d S
    | _ => .no
  | .cst d, _, S => .ok d S
  | .glb _ d, _, S => .ok d S
  | .bin op a b, ρ, S => (ev cl a ρ S).bind fun x S1 => (ev cl b ρ S1).bind fun y S2 => binop op x y S2
  | .neg a, ρ, S => (ev cl a ρ S).bind fun x S1 => match x with
    | .int i => .ok (.int (-i)) S1
    | _ => .no
  | .not a, ρ, S => (ev cl a ρ S).bind fun x S1 => isB x S1 fun b => .ok (.bl (!b)) S1
  | .and a b, ρ, S => (ev cl a ρ S).bind fun x S1 => isB x S1 fun c => if c = true then ev cl b ρ S1 else .ok (.bl false) S1
  | .or a b, ρ, S => (ev cl a ρ S).bind fun x S1 => isB x S1 fun c => if c = true then .ok (.bl true) S1 else ev cl b ρ S1
  | .ite t a b, ρ, S => (ev cl t ρ S).bind fun x S1 => isB x S1 fun c => if c = true then ev cl a ρ S1 else ev cl b ρ S1
  | .cmp op a b, ρ, S => (ev cl a ρ S).bind fun x S1 => (ev cl b ρ S1).bind fun y S2 => cmpop op x y S2
  | .chn o p a b c, ρ, S => (ev cl a ρ S).bind fun x S1 => (ev cl b ρ S1).bind fun y S2 => (cmpop o x y S2).bind fun t S3 => isB t S3 fun k =>
    if k = true then (ev cl c ρ S3).bind fun z S4 => cmpop p y z S4 else .ok (.bl false) S3
  | .tup es, ρ, S => (evs cl es ρ S).bind fun ds S1 => if ds.length ≤ sizeLine then .ok (.tup ds) S1 else .no
  | .lst es, ρ, S => (evs cl es ρ S).bind fun ds S1 => if ds.length ≤ sizeLine then alloc (.lst ds) S1 else .no
  | .dic es, ρ, S => match es with
    | .nil => alloc (.dic false []) S
    | _ => .no
  | .sub a i, ρ, S => (ev cl a ρ S).bind fun x S1 => (ev cl i ρ S1).bind fun y S2 => subD x y S2
  | .slc a lo hi, ρ, S => (ev cl a ρ S).bind fun x S1 => (evo cl lo ρ S1).bind fun l S2 => (evo cl hi ρ S2).bind fun u S3 => slcD x l u S3
  | .rvs a, ρ, S => (ev cl a ρ S).bind fun x S1 => rvD x S1
  | .cal f es, ρ, S => (evs cl es ρ S).bind fun ds S1 => cl f ds S1
  | .blt f es, ρ, S => (evs cl es ρ S).bind fun ds S1 => bi f ds S1
  | .mth m a es, ρ, S => (ev cl a ρ S).bind fun x S1 => if mtOk m x S1 = true then (evs cl es ρ S1).bind fun ds S2 => mi m x ds S2 else .no
  | .isi a t, ρ, S => (ev cl a ρ S).bind fun x S1 => retB (isiD x t S1) S1
  | .lc elt tg ik es cd own, ρ, S => (evs cl es ρ S).bind fun ds S1 => match iter ik ds S1 with
    | none => .no
    | some (xs, g) => (R.noex (lcGo (fun d S2 => match bindT tg d (wipeE ρ own) with
        | none => .no
        | some ρ' => match cd with
          | .no => (ev cl elt ρ' S2).bind fun y S3 => .ok (some y) S3
          | .so c => (ev cl c ρ' S2).bind fun t S3 => isB t S3 fun b => if b = true then (ev cl elt ρ' S3).bind fun y S4 => .ok (some y) S4 else .ok none S3) g xs xs S1)).bind fun ys S2 =>
      if xs.length ≤ sizeLine then alloc (.lst ys) S2 else .no
noncomputable def evs (cl : Cl) : Es → Env → Store → R (List D)
  | .nil, _, S => .ok [] S
  | .cons e es, ρ, S => (ev cl e ρ S).bind fun x S1 => (evs cl es ρ S1).bind fun xs S2 => .ok (x :: xs) S2
noncomputable def evo (cl : Cl) : Op → Env → Store → R (Option Int)
  | .no, _, S => .ok none S
  | .so e, ρ, S => (ev cl e ρ S).bind fun x S1 => match x with
    | .int i => .ok (some i) S1
    | _ => .no
end

/-! ### statements -/
inductive Out where
  | nx (ρ : Env) | ret (d : D) | bk (ρ : Env) | ct (ρ : Env)
def setD (x i d : D) (S : Store) : R Unit := match x, i with
  | .ref r, k => (match S[r]? with
    | some (.lst ds) => (match k with
      | .int k => (match ixN ds.length k with
        | some j => .ok () (S.set r (.lst (ds.set j d)))
        | none => .no)
      | _ => .no)
    | some (.dic false kvs) => (match keyD k with
      | some k => if kvs.length < sizeLine then .ok () (S.set r (.dic false (dput kvs k d))) else .no
      | none => .no)
    | _ => .no)
  | _, _ => .no
def atsLen : ATs → Nat
  | .nil => 0
  | .cons _ r => atsLen r + 1
mutual
noncomputable def asgT (cl : Cl) : AT → D → Env → Store → R Env
  | .nm i, d, ρ, S => if i < ρ.length then .ok (ρ.set i (some d)) S else .no
  | .tp ts, d, ρ, S => match d with
    | .tup ds => if ds.length = atsLen ts then asgTs cl ts ds ρ S else .no
    | _ => .no
  | .sub a i, d, ρ, S => (ev cl a ρ S).bind fun x S1 => (ev cl i ρ S1).bind fun y S2 => (setD x y d S2).bind fun _ S3 => .ok ρ S3
noncomputable def asgTs (cl : Cl) : ATs → List D → Env → Store → R Env
  | .nil, [], ρ, S => .ok ρ S
  | .cons t ts, d :: ds, ρ, S => (asgT cl t d ρ S).bind fun ρ' S1 => asgTs cl ts ds ρ' S1
  | _, _, _, _ => .no
end
open Classical in
noncomputable def forGo (body : D → Env → Store → R Out) (g : Option Nat) (all : List D) : List D → Env → Store → R Out
  | [], ρ, S => if stands g all S then .ok (.nx ρ) S else .no
  | x :: xs, ρ, S => if stands g all S then (body x ρ S).bind fun o S1 => match o with
    | .nx ρ' => forGo body g all xs ρ' S1
    | .ct ρ' => forGo body g all xs ρ' S1
    | .bk ρ' => .ok (.nx ρ') S1
    | .ret d => .ok (.ret d) S1 else .no
def whGo (tst : Env → Store → R D) (body : Env → Store → R Out) : Nat → Env → Store → R Out
  | 0, _, _ => .no
  | n + 1, ρ, S => (tst ρ S).bind fun x S1 => isB x S1 fun b => if b = true then (body ρ S1).bind fun o S2 => match o with
    | .nx ρ' => whGo tst body n ρ' S2
    | .ct ρ' => whGo tst body n ρ' S2
    | .bk ρ' => .ok (.nx ρ') S2
    | .ret d => .ok (.ret d) S2 else .ok (.nx ρ) S1
mutual
noncomputable def exec (cl : Cl) (F : Nat) : Stm → Env → Store → R Out
  | .asg t e, ρ, S => (ev cl e ρ S).bind fun d S1 => (asgT cl t d ρ S1).bind fun ρ' S2 => .ok (.nx ρ') S2
  | .par i j a b, ρ, S => (ev cl a ρ S).bind fun x S1 => (ev cl b ρ S1).bind fun y S2 => if i < ρ.length ∧ j < ρ.length then .ok (.nx ((ρ.set i (some x)).set j (some y))) S2 else .no
  | .ex e, ρ, S => (ev cl e ρ S).bind fun _ S1 => .ok (.nx ρ) S1
  | .ret e, ρ, S => (ev cl e ρ S).bind fun d S1 => .ok (.ret d) S1
  | .retN, _, S => .ok (.ret .non) S
  | .ife t a b, ρ, S => (ev cl t ρ S).bind fun x S1 => isB x S1 fun c => if c = true then execs cl F a ρ S1 else execs cl F b ρ S1
  | .for t ik es b, ρ, S => (evs cl es ρ S).bind fun ds S1 => match iter ik ds S1 with
    | none => .no
    | some (xs, g) => forGo (fun d ρ' S2 => match bindT t d ρ' with
        | none => .no
        | some ρ'' => execs cl F b ρ'' S2) g xs xs ρ S1
  | .whl t b, ρ, S => whGo (fun ρ' S1 => ev cl t ρ' S1) (fun ρ' S1 => execs cl F b ρ' S1) F ρ S
  | .brk, ρ, S => .ok (.bk ρ) S
  | .cnt, ρ, S => .ok (.ct ρ) S
  | .pas, ρ, S => .ok (.nx ρ) S
noncomputable def execs (cl : Cl) (F : Nat) : Stms → Env → Store → R Out
  | .nil, ρ, S => .ok (.nx ρ) S
  | .cons s ss, ρ, S => (exec cl F s ρ S).bind fun o S1 => match o with
    | .nx ρ' => execs cl F ss ρ' S1
    | o => .ok o S1
end

/-! ### calls -/
mutual
def D.lt (n : Nat) : D → Bool
  | .ref i => decide (i < n)
  | .tup ds => D.lts n ds
  | .fzl ds => D.lts n ds
  | _ => true
def D.lts (n : Nat) : List D → Bool
  | [] => true
  | d :: ds => D.lt n d && D.lts n ds
end
def Cell.lt (n : Nat) : Cell → Bool
  | .lst ds => D.lts n ds
  | .dic _ kvs => D.lts n (kvs.map (·.2))
  | .ins _ fs => D.lts n (fs.map (·.2))
/-- no elder cell names a new one -/
def clean (S S' : Store) : Prop := S.length ≤ S'.length ∧ ∀ i c, i < S.length → S'[i]? = some c → S[i]? = some c ∨ c.lt S.length = true
open Classical in
/-- behind a call: what nothing names any more goes -/
noncomputable def gc (S : Store) (d : D) (S' : Store) : R D :=
  if clean S S' then
    if d.lt S.length = true then .ok d (S'.take S.length) else
      match d with
      | .ref i => (match S'[i]? with
        | some c => if c.lt S.length = true then .ok (.ref S.length) (S'.take S.length ++ [c]) else .ok d S'
        | none => .ok d S')
      | _ => .ok d S'
  else .ok d S'
noncomputable def fin (S : Store) (r : R Out) : R D := match r with
  | .ok (.ret d) S' => gc S d S'
  | .ok (.nx _) S' => gc S .non S'
  | .ok _ _ => .no
  | .ex c fs S' => .ex c fs S'
  | .no => .no
structure Fn where
  np : Nat
  ns : Nat
  body : Stms
abbrev Tbl := List (Str × Fn)
noncomputable def call (T : Tbl) (F : Nat) : Nat → Cl
  | 0 => fun _ _ _ => .no
  | k + 1 => fun f ds S => match T.lookup f with
    | none => .no
    | some fn => if ds.length = fn.np ∧ fn.np ≤ fn.ns then fin S (execs (call T F k) F fn.body (ds.map some ++ List.replicate (fn.ns - fn.np) none) S) else .no
end Pv
set_option Elab.async false
set_option linter.all false
set_option maxRecDepth 100000
/-! how data lie in the abstract heap -/
namespace Pv
open PySem PySem.Spec PyProof.Rows L2

section
variable (K : PySem.W.Frag)
/-- a list that nobody changes -/
def FzL (H : Hp) (a : Addr) (xs : List V) : Prop :=
  (∃ o, H a = some (.frz o (.lst xs))) ∨
    ∃ (o : Obj) (its : Array Value) (n : Nat), K.lookup a = some o ∧ o.cls = .type "list" ∧ o.dict = none ∧ o.data = .seq its n ∧ its.size ≤ sizeLine ∧ Vals xs its.toList
theorem FzL.sq {H : Hp} {a : Addr} {xs : List V} (h : FzL K H a xs) : SqL K H a xs := h.elim (fun ⟨o, e⟩ => .inl (.inr ⟨o, e⟩)) .inr
mutual
def RepV (as : List Addr) (H : Hp) : D → V → Prop
  | .non, v => v = .non
  | .bl b, v => v = .bl b
  | .int i, v => v = .int i
  | .str s, v => v = .str s ∧ PyData.strOk s = true
  | .tup ds, v => ∃ a vs, v = .ref a ∧ SqT K H a vs ∧ ds.length ≤ sizeLine ∧ RepVs as H ds vs
  | .fzl ds, v => ∃ a vs, v = .ref a ∧ FzL K H a vs ∧ ds.length ≤ sizeLine ∧ RepVs as H ds vs
  | .ref i, v => ∃ a, v = .ref a ∧ as[i]? = some a
def RepVs (as : List Addr) (H : Hp) : List D → List V → Prop
  | [], vs => vs = []
  | d :: ds, vs => ∃ v r, vs = v :: r ∧ RepV as H d v ∧ RepVs as H ds r
end
def keyOk : Key → Prop
  | .inl _ => True
  | .inr s => PyData.strOk s = true
def RepK (as : List Addr) (H : Hp) : List (Key × D) → List (Key × V) → Prop
  | [], ks => ks = []
  | (k, d) :: r, ks => ∃ v q, ks = (k, v) :: q ∧ keyOk k ∧ RepV K as H d v ∧ RepK as H r q
def CellR (as : List Addr) (H : Hp) (a : Addr) : Cell → Prop
  | .lst ds => ∃ vs, H a = some (.lst vs) ∧ ds.length ≤ sizeLine ∧ RepVs K as H ds vs
  | .dic false kvs => ∃ ks, H a = some (.dK ks) ∧ kvs.length ≤ sizeLine ∧ RepK K as H kvs ks
  | .dic true kvs => ∃ o ks, H a = some (.frz o (.dK ks)) ∧ kvs.length ≤ sizeLine ∧ RepK K as H kvs ks
  | .ins _ _ => False
structure RelS (as : List Addr) (H : Hp) (S : Store) : Prop where
  len : as.length = S.length
  nd : as.Nodup
  cell : ∀ (i : Nat) (c : Cell) (a : Addr), S[i]? = some c → as[i]? = some a → CellR K as H a c
def EnvR (as : List Addr) (H : Hp) (ρ : Env) (σ : L2.St) : Prop :=
  ρ.length = σ.length ∧ ∀ (i : Nat) (d : D), ρ[i]? = some (some d) → ∃ v, σ[i]? = some (some v) ∧ RepV K as H d v
end
structure Ext (as : List Addr) (H : Hp) (as' : List Addr) (H' : Hp) : Prop where
  more : ∃ m, as' = as ++ m
  keep : ∀ a o, H a = some o → a ∉ as → H' a = some o
  fresh : ∀ a, a ∈ as' → a ∈ as ∨ H a = none

section
variable {K : PySem.W.Frag} {as as' as2 : List Addr} {H H' H2 : Hp} {S : Store}
theorem Ext.refl : Ext as H as H := ⟨⟨[], by simp⟩, fun _ _ h _ => h, fun _ h => .inl h⟩
theorem Ext.trans (x : Ext as H as' H') (y : Ext as' H' as2 H2) : Ext as H as2 H2 := by
  obtain ⟨m, e⟩ := x.more
  obtain ⟨m2, e2⟩ := y.more
  refine ⟨⟨m ++ m2, by rw [e2, e, List.append_assoc]⟩, fun a o h n => ?_, fun a h => ?_⟩
  · refine y.keep a o (x.keep a o h n) fun q => ?_
    rcases x.fresh a q with z | z
    · exact n z
    · rw [h] at z; cases z
  · rcases y.fresh a h with z | z
    · exact x.fresh a z
    · by_cases q : a ∈ as
      · exact .inl q
      · cases r : H a with
        | none => exact .inr rfl
        | some o => rw [x.keep a o r q] at z; cases z
theorem Ext.get (x : Ext as H as' H') {i : Nat} {a : Addr} (h : as[i]? = some a) : as'[i]? = some a := by
  obtain ⟨m, e⟩ := x.more
  rw [e, List.getElem?_append_left (List.getElem?_eq_some_iff.mp h).1]
  exact h
theorem CellR.some {a : Addr} {c : Cell} (h : CellR K as H a c) : ∃ o, H a = some o ∧ (∀ xs, o ≠ .tup xs) ∧ (∀ ob xs, o ≠ .frz ob (.tup xs)) ∧ ∀ ob xs, o ≠ .frz ob (.lst xs) := by
  cases c with
  | lst ds => obtain ⟨vs, e, _⟩ := h; exact ⟨_, e, (fun _ z => by cases z), (fun _ _ z => by cases z), (fun _ _ z => by cases z)⟩
  | dic b kvs =>
    cases b with
    | false => obtain ⟨vs, e, _⟩ := h; exact ⟨_, e, (fun _ z => by cases z), (fun _ _ z => by cases z), (fun _ _ z => by cases z)⟩
    | true => obtain ⟨o, vs, e, _⟩ := h; exact ⟨_, e, (fun _ z => by cases z), (fun _ _ z => by cases z), (fun _ _ z => by cases z)⟩
  | ins c fs => exact h.elim
theorem RelS.mem (r : RelS K as H S) {a : Addr} (h : a ∈ as) : ∃ o, H a = some o ∧ (∀ xs, o ≠ .tup xs) ∧ (∀ ob xs, o ≠ .frz ob (.tup xs)) ∧ ∀ ob xs, o ≠ .frz ob (.lst xs) := by
  obtain ⟨i, hi, e⟩ := List.getElem_of_mem h
  have hs : i < S.length := by rw [← r.len]; exact hi
  exact (r.cell i S[i] a (List.getElem?_eq_getElem hs) (by rw [List.getElem?_eq_getElem hi, e])).some
theorem RelS.at_ (r : RelS K as H S) {i : Nat} {c : Cell} (h : S[i]? = some c) : ∃ a, as[i]? = some a ∧ CellR K as H a c := by
  have hi : i < as.length := by rw [r.len]; exact (List.getElem?_eq_some_iff.mp h).1
  exact ⟨as[i], List.getElem?_eq_getElem hi, r.cell i c _ h (List.getElem?_eq_getElem hi)⟩
theorem Ext.sqT (x : Ext as H as' H') (r : RelS K as H S) {a : Addr} {xs : List V} (h : SqT K H a xs) : SqT K H' a xs := by
  rcases h with (h | ⟨o, h⟩) | h
  · refine .inl (.inl (x.keep a _ h fun q => ?_))
    obtain ⟨o, e, n, _⟩ := r.mem q
    rw [h] at e; cases e; exact n _ rfl
  · refine .inl (.inr ⟨o, x.keep a _ h fun q => ?_⟩)
    obtain ⟨o, e, _, n, _⟩ := r.mem q
    rw [h] at e; cases e; exact n _ _ rfl
  · exact .inr h
theorem Ext.fzL (x : Ext as H as' H') (r : RelS K as H S) {a : Addr} {xs : List V} (h : FzL K H a xs) : FzL K H' a xs := by
  rcases h with ⟨o, h⟩ | h
  · refine .inl ⟨o, x.keep a _ h fun q => ?_⟩
    obtain ⟨o, e, _, _, n⟩ := r.mem q
    rw [h] at e; cases e; exact n _ _ rfl
  · exact .inr h
mutual
theorem Ext.repV (x : Ext as H as' H') (r : RelS K as H S) : ∀ (d : D) (v : V), RepV K as H d v → RepV K as' H' d v
  | .non, _, h => by simp only [RepV] at h ⊢; exact h
  | .bl _, _, h => by simp only [RepV] at h ⊢; exact h
  | .int _, _, h => by simp only [RepV] at h ⊢; exact h
  | .str _, _, h => by simp only [RepV] at h ⊢; exact h
  | .tup ds, _, h => by
    simp only [RepV] at h ⊢
    obtain ⟨a, vs, e, q, l, t⟩ := h
    exact ⟨a, vs, e, x.sqT r q, l, Ext.repVs x r ds vs t⟩
  | .fzl ds, _, h => by
    simp only [RepV] at h ⊢
    obtain ⟨a, vs, e, q, l, t⟩ := h
    exact ⟨a, vs, e, x.fzL r q, l, Ext.repVs x r ds vs t⟩
  | .ref i, _, h => by
    simp only [RepV] at h ⊢
    obtain ⟨a, e, q⟩ := h
    exact ⟨a, e, x.get q⟩
theorem Ext.repVs (x : Ext as H as' H') (r : RelS K as H S) : ∀ (ds : List D) (vs : List V), RepVs K as H ds vs → RepVs K as' H' ds vs
  | [], _, h => by simp only [RepVs] at h ⊢; exact h
  | d :: ds, _, h => by
    simp only [RepVs] at h ⊢
    obtain ⟨v, q, e, h1, h2⟩ := h
    exact ⟨v, q, e, Ext.repV x r d v h1, Ext.repVs x r ds q h2⟩
end
theorem Ext.repK (x : Ext as H as' H') (r : RelS K as H S) : ∀ (kvs : List (Key × D)) (ks : List (Key × V)), RepK K as H kvs ks → RepK K as' H' kvs ks
  | [], _, h => h
  | (k, d) :: kvs, _, h => by
    obtain ⟨v, q, e, k1, h1, h2⟩ := h
    exact ⟨v, q, e, k1, x.repV r d v h1, Ext.repK x r kvs q h2⟩
theorem Ext.env (x : Ext as H as' H') (r : RelS K as H S) {ρ : Env} {σ : L2.St} (h : EnvR K as H ρ σ) : EnvR K as' H' ρ σ :=
  ⟨h.1, fun i d e => let ⟨v, e1, e2⟩ := h.2 i d e; ⟨v, e1, x.repV r d v e2⟩⟩
theorem Ext.cellO (x : Ext as H as' H') (r : RelS K as H S) {a : Addr} (ha : H' a = H a) {c : Cell} (h : CellR K as H a c) : CellR K as' H' a c := by
  cases c with
  | lst ds => obtain ⟨vs, e, l, t⟩ := h; exact ⟨vs, ha.trans e, l, x.repVs r _ _ t⟩
  | dic b kvs =>
    cases b with
    | false => obtain ⟨vs, e, l, t⟩ := h; exact ⟨vs, ha.trans e, l, x.repK r _ _ t⟩
    | true => obtain ⟨o, vs, e, l, t⟩ := h; exact ⟨o, vs, ha.trans e, l, x.repK r _ _ t⟩
  | ins c fs => exact h.elim
theorem RepVs.length {as : List Addr} {H : Hp} : ∀ {ds : List D} {vs : List V}, RepVs K as H ds vs → vs.length = ds.length
  | [], _, h => by simp only [RepVs] at h; rw [h]; rfl
  | d :: ds, _, h => by
    simp only [RepVs] at h
    obtain ⟨v, q, e, h1, h2⟩ := h
    rw [e, List.length_cons, List.length_cons, RepVs.length h2]
theorem RepVs.get {as : List Addr} {H : Hp} : ∀ {ds : List D} {vs : List V} (i : Nat) (d : D), RepVs K as H ds vs → ds[i]? = some d → ∃ v, vs[i]? = some v ∧ RepV K as H d v
  | [], _, _, _, _, h => by simp at h
  | e :: ds, _, 0, d, h, q => by
    simp only [RepVs] at h
    obtain ⟨v, r, rfl, h1, h2⟩ := h
    simp at q; subst q
    exact ⟨v, rfl, h1⟩
  | e :: ds, _, i + 1, d, h, q => by
    simp only [RepVs] at h
    obtain ⟨v, r, rfl, h1, h2⟩ := h
    obtain ⟨u, h3, h4⟩ := RepVs.get i d h2 (by simpa using q)
    exact ⟨u, by simpa using h3, h4⟩
theorem RepVs.append {as : List Addr} {H : Hp} : ∀ {ds es : List D} {vs us : List V}, RepVs K as H ds vs → RepVs K as H es us → RepVs K as H (ds ++ es) (vs ++ us)
  | [], _, _, _, h, g => by simp only [RepVs] at h; subst h; exact g
  | d :: ds, _, _, _, h, g => by
    simp only [RepVs] at h
    obtain ⟨v, r, rfl, h1, h2⟩ := h
    show RepVs K as H (d :: (ds ++ _)) _
    simp only [RepVs]
    exact ⟨v, _, rfl, h1, RepVs.append h2 g⟩
theorem RepVs.reverse {as : List Addr} {H : Hp} : ∀ {ds : List D} {vs : List V}, RepVs K as H ds vs → RepVs K as H ds.reverse vs.reverse
  | [], _, h => by simp only [RepVs] at h; subst h; simp [RepVs]
  | d :: ds, _, h => by
    simp only [RepVs] at h
    obtain ⟨v, r, rfl, h1, h2⟩ := h
    rw [List.reverse_cons, List.reverse_cons]
    exact RepVs.append (RepVs.reverse h2) (by simp only [RepVs]; exact ⟨v, [], rfl, h1, rfl⟩)
theorem RepVs.one {as : List Addr} {H : Hp} {d : D} {v : V} (h : RepV K as H d v) : RepVs K as H [d] [v] := by
  simp only [RepVs]
  exact ⟨v, [], rfl, h, rfl⟩
theorem RepVs.take {as : List Addr} {H : Hp} : ∀ (n : Nat) {ds : List D} {vs : List V}, RepVs K as H ds vs → RepVs K as H (ds.take n) (vs.take n)
  | 0, _, _, _ => by simp only [List.take_zero, RepVs]
  | n + 1, [], _, h => by simp only [RepVs] at h; subst h; simp only [List.take_nil, RepVs]
  | n + 1, d :: ds, _, h => by
    simp only [RepVs] at h
    obtain ⟨v, r, rfl, h1, h2⟩ := h
    simp only [List.take_succ_cons, RepVs]
    exact ⟨v, _, rfl, h1, RepVs.take n h2⟩
theorem RepVs.drop {as : List Addr} {H : Hp} : ∀ (n : Nat) {ds : List D} {vs : List V}, RepVs K as H ds vs → RepVs K as H (ds.drop n) (vs.drop n)
  | 0, _, _, h => h
  | n + 1, [], _, h => by simp only [RepVs] at h; subst h; simp only [List.drop_nil, RepVs]
  | n + 1, d :: ds, _, h => by
    simp only [RepVs] at h
    obtain ⟨v, r, rfl, h1, h2⟩ := h
    exact RepVs.drop n h2
theorem RepVs.set {as : List Addr} {H : Hp} {d : D} {v : V} (g : RepV K as H d v) : ∀ (i : Nat) {ds : List D} {vs : List V}, RepVs K as H ds vs → RepVs K as H (ds.set i d) (vs.set i v)
  | _, [], _, h => by simp only [RepVs] at h; subst h; simp only [List.set_nil, RepVs]
  | 0, e :: ds, _, h => by
    simp only [RepVs] at h
    obtain ⟨u, r, rfl, h1, h2⟩ := h
    simp only [List.set_cons_zero, RepVs]
    exact ⟨v, r, rfl, g, h2⟩
  | i + 1, e :: ds, _, h => by
    simp only [RepVs] at h
    obtain ⟨u, r, rfl, h1, h2⟩ := h
    simp only [List.set_cons_succ, RepVs]
    exact ⟨u, _, rfl, h1, RepVs.set g i h2⟩
theorem RepVs.ints {as : List Addr} {H : Hp} : ∀ {ds : List D} {vs : List V} {ns : List Int}, RepVs K as H ds vs → intsD ds = some ns → vs = ns.map V.int
  | [], _, _, h, e => by simp only [RepVs] at h; simp [intsD] at e; subst h; subst e; rfl
  | .int i :: ds, _, _, h, e => by
    simp only [RepVs, RepV] at h
    obtain ⟨v, r, rfl, rfl, h2⟩ := h
    simp only [intsD, Option.map_eq_some_iff] at e
    obtain ⟨ms, e1, rfl⟩ := e
    rw [RepVs.ints h2 e1]; rfl
  | .non :: _, _, _, _, e => by simp [intsD] at e
  | .bl _ :: _, _, _, _, e => by simp [intsD] at e
  | .str _ :: _, _, _, _, e => by simp [intsD] at e
  | .tup _ :: _, _, _, _, e => by simp [intsD] at e
  | .fzl _ :: _, _, _, _, e => by simp [intsD] at e
  | .ref _ :: _, _, _, _, e => by simp [intsD] at e
theorem RepVs.bls {as : List Addr} {H : Hp} : ∀ {ds : List D} {vs : List V} {ns : List Bool}, RepVs K as H ds vs → blsD ds = some ns → vs = ns.map V.bl
  | [], _, _, h, e => by simp only [RepVs] at h; simp [blsD] at e; subst h; subst e; rfl
  | .bl i :: ds, _, _, h, e => by
    simp only [RepVs, RepV] at h
    obtain ⟨v, r, rfl, rfl, h2⟩ := h
    simp only [blsD, Option.map_eq_some_iff] at e
    obtain ⟨ms, e1, rfl⟩ := e
    rw [RepVs.bls h2 e1]; rfl
  | .non :: _, _, _, _, e => by simp [blsD] at e
  | .int _ :: _, _, _, _, e => by simp [blsD] at e
  | .str _ :: _, _, _, _, e => by simp [blsD] at e
  | .tup _ :: _, _, _, _, e => by simp [blsD] at e
  | .fzl _ :: _, _, _, _, e => by simp [blsD] at e
  | .ref _ :: _, _, _, _, e => by simp [blsD] at e
theorem RepVs.strs {as : List Addr} {H : Hp} : ∀ {ds : List D} {vs : List V} {ns : List Str}, RepVs K as H ds vs → strsD ds = some ns → vs = ns.map V.str
  | [], _, _, h, e => by simp only [RepVs] at h; simp [strsD] at e; subst h; subst e; rfl
  | .str i :: ds, _, _, h, e => by
    simp only [RepVs, RepV] at h
    obtain ⟨v, r, rfl, ⟨rfl, hs⟩, h2⟩ := h
    simp only [strsD, Option.map_eq_some_iff] at e
    obtain ⟨ms, e1, rfl⟩ := e
    rw [RepVs.strs h2 e1]; rfl
  | .non :: _, _, _, _, e => by simp [strsD] at e
  | .int _ :: _, _, _, _, e => by simp [strsD] at e
  | .bl _ :: _, _, _, _, e => by simp [strsD] at e
  | .tup _ :: _, _, _, _, e => by simp [strsD] at e
  | .fzl _ :: _, _, _, _, e => by simp [strsD] at e
  | .ref _ :: _, _, _, _, e => by simp [strsD] at e
theorem RepVs.mapInt (as : List Addr) (H : Hp) : ∀ ns : List Int, RepVs K as H (ns.map D.int) (ns.map V.int)
  | [] => by simp only [List.map_nil, RepVs]
  | n :: ns => by simp only [List.map_cons, RepVs, RepV]; exact ⟨_, _, rfl, rfl, RepVs.mapInt as H ns⟩
theorem RepVs.mapStr (as : List Addr) (H : Hp) : ∀ ns : List Str, (∀ s ∈ ns, PyData.strOk s = true) → RepVs K as H (ns.map D.str) (ns.map V.str)
  | [], _ => by simp only [List.map_nil, RepVs]
  | n :: ns, h => by simp only [List.map_cons, RepVs, RepV]; exact ⟨_, _, rfl, ⟨rfl, h n (by simp)⟩, RepVs.mapStr as H ns fun s hs => h s (by simp [hs])⟩
theorem RepVs.strsOk {as : List Addr} {H : Hp} : ∀ {ds : List D} {vs : List V} {ns : List Str}, RepVs K as H ds vs → strsD ds = some ns → ∀ s ∈ ns, PyData.strOk s = true
  | [], _, _, h, e => by simp [strsD] at e; subst e; simp
  | .str i :: ds, _, _, h, e => by
    simp only [RepVs, RepV] at h
    obtain ⟨v, r, rfl, ⟨rfl, hs⟩, h2⟩ := h
    simp only [strsD, Option.map_eq_some_iff] at e
    obtain ⟨ms, e1, rfl⟩ := e
    intro s hm
    rcases List.mem_cons.mp hm with rfl | hm
    · exact hs
    · exact RepVs.strsOk h2 e1 s hm
  | .non :: _, _, _, _, e => by simp [strsD] at e
  | .int _ :: _, _, _, _, e => by simp [strsD] at e
  | .bl _ :: _, _, _, _, e => by simp [strsD] at e
  | .tup _ :: _, _, _, _, e => by simp [strsD] at e
  | .fzl _ :: _, _, _, _, e => by simp [strsD] at e
  | .ref _ :: _, _, _, _, e => by simp [strsD] at e

/-! ### signs of texts -/
theorem strOk_mem {s : Str} : PyData.strOk s = true ↔ ∀ c ∈ s.cps.toList, c < 0x110000 := by
  unfold PyData.strOk
  rw [Array.all_eq_true']
  constructor
  · exact fun h c hc => of_decide_eq_true (h c (by simpa using hc))
  · exact fun h c hc => decide_eq_true (h c (by simpa using hc))
theorem strOk_sub {s t : Str} (h : PyData.strOk s = true) (q : ∀ c ∈ t.cps.toList, c ∈ s.cps.toList) : PyData.strOk t = true := strOk_mem.mpr fun c hc => strOk_mem.mp h c (q c hc)
theorem cps_app (a b : Str) : (a ++ b).cps = a.cps ++ b.cps := rfl
theorem strOk_app {a b : Str} (h : PyData.strOk a = true) (g : PyData.strOk b = true) : PyData.strOk (a ++ b) = true := strOk_mem.mpr fun c hc => by
  rw [cps_app] at hc
  simp at hc
  rcases hc with hc | hc
  · exact strOk_mem.mp h c (by simpa using hc)
  · exact strOk_mem.mp g c (by simpa using hc)

/-! ### the three steps: a new tuple, a new cell, a cell written -/
theorem RelS.none_not (r : RelS K as H S) {p : Addr} (hp : H p = none) : p ∉ as := fun q => by
  obtain ⟨o, e, _⟩ := r.mem q
  rw [hp] at e; cases e
theorem Ext.updO {p : Addr} {o : HO} (hp : H p = none) : Ext as H as (upd H p o) :=
  ⟨⟨[], by simp⟩, fun a u h _ => by rw [upd_ne (ne_of_none h hp)]; exact h, fun _ h => .inl h⟩
theorem RelS.updO (r : RelS K as H S) {p : Addr} {o : HO} (hp : H p = none) : RelS K as (upd H p o) S :=
  ⟨r.len, r.nd, fun i c a h q => (Ext.updO hp).cellO r (upd_ne fun e => r.none_not hp (e ▸ List.mem_of_getElem? q)) (r.cell i c a h q)⟩
theorem Ext.new {p : Addr} {o : HO} (hp : H p = none) : Ext as H (as ++ [p]) (upd H p o) :=
  ⟨⟨[p], rfl⟩, fun a u h _ => by rw [upd_ne (ne_of_none h hp)]; exact h, fun a h => by
    rcases List.mem_append.mp h with h | h
    · exact .inl h
    · simp at h; subst h; exact .inr hp⟩
theorem RelS.new (r : RelS K as H S) {p : Addr} {o : HO} (hp : H p = none) {c : Cell} (hc : CellR K (as ++ [p]) (upd H p o) p c) : RelS K (as ++ [p]) (upd H p o) (S ++ [c]) := by
  refine ⟨by rw [List.length_append, List.length_append, r.len]; rfl, ?_, fun i d a h q => ?_⟩
  · rw [List.nodup_append]
    refine ⟨r.nd, by simp, fun a ha b hb => ?_⟩
    simp at hb; subst hb
    rintro rfl
    exact r.none_not hp ha
  · by_cases hi : i < S.length
    · rw [List.getElem?_append_left hi] at h
      rw [List.getElem?_append_left (by rw [r.len]; exact hi)] at q
      exact (Ext.new hp).cellO r (upd_ne fun e => r.none_not hp (e ▸ List.mem_of_getElem? q)) (r.cell i d a h q)
    · have hl := (List.getElem?_eq_some_iff.mp h).1
      rw [List.length_append] at hl
      have e : i = S.length := by simp at hl; omega
      subst e
      simp at h
      rw [← r.len] at q
      simp at q
      subst h; subst q
      exact hc
theorem Ext.write (r : RelS K as H S) {i : Nat} {a : Addr} {o : HO} (ha : as[i]? = some a) : Ext as H as (upd H a o) :=
  ⟨⟨[], by simp⟩, fun b u h n => by
    rw [upd_ne (fun e : b = a => n (by rw [e]; exact List.mem_of_getElem? ha))]; exact h, fun _ h => .inl h⟩
theorem RelS.write (r : RelS K as H S) {i : Nat} {a : Addr} {o : HO} (ha : as[i]? = some a) {c : Cell} (hc : CellR K as (upd H a o) a c) : RelS K as (upd H a o) (S.set i c) := by
  refine ⟨by rw [List.length_set]; exact r.len, r.nd, fun j d b h q => ?_⟩
  by_cases hj : i = j
  · subst hj
    rw [ha] at q; cases q
    have hi : i < S.length := by rw [← r.len]; exact (List.getElem?_eq_some_iff.mp ha).1
    rw [List.getElem?_set_self hi] at h
    cases h
    exact hc
  · rw [List.getElem?_set_ne hj] at h
    refine (Ext.write r ha).cellO r (upd_ne fun e => hj ?_) (r.cell j d b h q)
    subst e
    obtain ⟨h1, e1⟩ := List.getElem?_eq_some_iff.mp ha
    obtain ⟨h2, e2⟩ := List.getElem?_eq_some_iff.mp q
    exact (List.getElem_inj r.nd).mp (e1.trans e2.symm)
end
end Pv
set_option Elab.async false
set_option linter.all false
set_option maxRecDepth 100000
set_option maxHeartbeats 1000000
/-! operators, by values -/
namespace Pv
open PySem PySem.Spec PyProof.Rows L2

/-- what holds behind a run of the interpreter -/
abbrev XW := Str → List (Str × D) → Store → List Addr → Hp → Prop
def Post (K : PySem.W.Frag) {α : Type} (EX : XW) (as : List Addr) (H : Hp) (r : R α) (Q : α → Store → List Addr → Hp → Prop) : Prop := match r with
  | .ok a S' => ∀ as' H', Ext as H as' H' → RelS K as' H' S' → Q a S' as' H'
  | .ex c fs S' => ∀ as' H', Ext as H as' H' → RelS K as' H' S' → EX c fs S' as' H'
  | .no => False
abbrev VQ (K : PySem.W.Frag) (Q : VK) : D → Store → List Addr → Hp → Prop := fun d _ as' H' => ∀ v, RepV K as' H' d v → Q v H'
section
variable {K : PySem.W.Frag} {α β : Type} {EX : XW} {as as1 : List Addr} {H H1 : Hp}
theorem Post.base {r : R α} {Q : α → Store → List Addr → Hp → Prop} (h : Post K EX as H r Q) (x : Ext as H as1 H1) : Post K EX as1 H1 r Q := by
  cases r with
  | ok a S => exact fun as' H' y r => h as' H' (x.trans y) r
  | ex c fs S => exact fun as' H' y r => h as' H' (x.trans y) r
  | no => exact h
theorem Post.imp {r : R α} {Q Q' : α → Store → List Addr → Hp → Prop} (h : Post K EX as H r Q) (f : ∀ a S' as' H', Ext as H as' H' → RelS K as' H' S' → Q a S' as' H' → Q' a S' as' H') : Post K EX as H r Q' := by
  cases r with
  | ok a S => exact fun as' H' y r => f _ _ _ _ y r (h as' H' y r)
  | ex c fs S => exact h
  | no => exact h
theorem Post.bind {r : R α} {f : α → Store → R β} {Q : β → Store → List Addr → Hp → Prop} (h : Post K EX as H (r.bind f) Q) : Post K EX as H r fun a S1 as1 H1 => Post K EX as1 H1 (f a S1) Q := by
  cases r with
  | ok a S => exact fun as' H' y r => h.base y
  | ex c fs S => exact h
  | no => exact h
theorem Post.here {a : α} {S : Store} {Q : α → Store → List Addr → Hp → Prop} (h : Post K EX as H (.ok a S) Q) (r : RelS K as H S) : Q a S as H := h as H Ext.refl r
theorem Post.lst {ds : List D} {S : Store} {vs : List V} {p : Addr} {Q : VK} (h : Post K EX as H (alloc (.lst ds) S) (VQ K Q)) (r : RelS K as H S) (hp : H p = none) (l : ds.length ≤ sizeLine) (t : RepVs K as H ds vs) : Q (.ref p) (upd H p (.lst vs)) := by
  have x : Ext as H (as ++ [p]) (upd H p (.lst vs)) := Ext.new hp
  refine h _ _ x (r.new hp ⟨vs, upd_same, l, x.repVs r _ _ t⟩) _ ?_
  simp only [RepV]
  exact ⟨p, rfl, by rw [← r.len]; simp⟩
theorem Post.dic {kvs : List (Key × D)} {S : Store} {ks : List (Key × V)} {p : Addr} {Q : VK} (h : Post K EX as H (alloc (.dic false kvs) S) (VQ K Q)) (r : RelS K as H S) (hp : H p = none) (l : kvs.length ≤ sizeLine) (t : RepK K as H kvs ks) : Q (.ref p) (upd H p (.dK ks)) := by
  have x : Ext as H (as ++ [p]) (upd H p (.dK ks)) := Ext.new hp
  refine h _ _ x (r.new hp ⟨ks, upd_same, l, x.repK r _ _ t⟩) _ ?_
  simp only [RepV]
  exact ⟨p, rfl, by rw [← r.len]; simp⟩
theorem Post.tup {ds : List D} {S : Store} {vs : List V} {p : Addr} {Q : VK} (h : Post K EX as H (.ok (.tup ds) S) (VQ K Q)) (r : RelS K as H S) (hp : H p = none) (l : ds.length ≤ sizeLine) (t : RepVs K as H ds vs) : Q (.ref p) (upd H p (.tup vs)) := by
  have x : Ext as H as (upd H p (.tup vs)) := Ext.updO hp
  refine h _ _ x (r.updO hp) _ ?_
  simp only [RepV]
  exact ⟨p, vs, rfl, .inl (.inl upd_same), l, x.repVs r _ _ t⟩
theorem Post.set {c : Cell} {S : Store} {i : Nat} {a : Addr} {o : HO} {d : α} {Q : α → Store → List Addr → Hp → Prop} (h : Post K EX as H (.ok d (S.set i c)) Q) (r : RelS K as H S) (ha : as[i]? = some a)
    (hc : ∀ x : Ext as H as (upd H a o), CellR K as (upd H a o) a c) : Q d (S.set i c) as (upd H a o) :=
  h _ _ (Ext.write r ha) (r.write ha (hc (Ext.write r ha)))
end

/-- a reading by the interpreter's operation -/
def rD2 (K : PySem.W.Frag) (m : D → D → Store → R D) : R2 := fun x y H Q => ∃ (EX : XW) (as : List Addr) (S : Store) (dx dy : D), RelS K as H S ∧ RepV K as H dx x ∧ RepV K as H dy y ∧ Post K EX as H (m dx dy S) (VQ K Q)
def rDn (K : PySem.W.Frag) (m : List D → Store → R D) : List V → Hp → VK → Prop := fun xs H Q => ∃ (EX : XW) (as : List Addr) (S : Store) (ds : List D), RelS K as H S ∧ RepVs K as H ds xs ∧ Post K EX as H (m ds S) (VQ K Q)

/-! ### trees -/
mutual
theorem repV_lst {K : PySem.W.Frag} {as : List Addr} {H : Hp} {S : Store} (r : RelS K as H S) : ∀ (n : Nat) (d : D) (p : PyData) (v : V), pd S n d = some p → RepV K as H d v → Dp K H v p ∧ p.canLay0 = true ∧ p.depth ≤ n
  | 0, _, _, _, h, _ => by simp [pd] at h
  | n + 1, .non, p, v, h, q => by simp only [pd, Option.some.injEq] at h; simp only [RepV] at q; subst h q; exact ⟨.non, by simp [PyData.canLay0], by simp [PyData.depth]⟩
  | n + 1, .bl b, p, v, h, q => by simp only [pd, Option.some.injEq] at h; simp only [RepV] at q; subst h q; exact ⟨.bl b, by simp [PyData.canLay0], by simp [PyData.depth]⟩
  | n + 1, .int b, p, v, h, q => by simp only [pd, Option.some.injEq] at h; simp only [RepV] at q; subst h q; exact ⟨.int b, by simp [PyData.canLay0], by simp [PyData.depth]⟩
  | n + 1, .str b, p, v, h, q => by simp only [pd, Option.some.injEq] at h; simp only [RepV] at q; obtain ⟨rfl, hs⟩ := q; subst h; exact ⟨.str b, by simpa [PyData.canLay0] using hs, by simp [PyData.depth]⟩
  | n + 1, .tup ds, p, v, h, q => by
    simp only [pd, Option.map_eq_some_iff] at h
    simp only [RepV] at q
    obtain ⟨ps, h, rfl⟩ := h
    obtain ⟨a, vs, rfl, q, l, t⟩ := q
    obtain ⟨h1, h2, h3⟩ := repVs_lst r n ds ps vs h t
    exact ⟨.tup q h1, by simpa [PyData.canLay0] using h2, by simp only [PyData.depth]; omega⟩
  | n + 1, .fzl ds, p, v, h, q => by
    simp only [pd, Option.map_eq_some_iff] at h
    simp only [RepV] at q
    obtain ⟨ps, h, rfl⟩ := h
    obtain ⟨a, vs, rfl, q, l, t⟩ := q
    obtain ⟨h1, h2, h3⟩ := repVs_lst r n ds ps vs h t
    exact ⟨.lst (FzL.sq K q) h1, by simpa [PyData.canLay0] using h2, by simp only [PyData.depth]; omega⟩
  | n + 1, .ref i, p, v, h, q => by
    simp only [pd] at h
    simp only [RepV] at q
    obtain ⟨a, rfl, q⟩ := q
    split at h
    · rename_i ds e
      simp only [Option.map_eq_some_iff] at h
      obtain ⟨ps, h, rfl⟩ := h
      obtain ⟨vs, e2, l, t⟩ := r.cell i _ a e q
      obtain ⟨h1, h2, h3⟩ := repVs_lst r n ds ps vs h t
      exact ⟨.lst (SqL.of e2) h1, by simpa [PyData.canLay0] using h2, by simp only [PyData.depth]; omega⟩
    · cases h
theorem repVs_lst {K : PySem.W.Frag} {as : List Addr} {H : Hp} {S : Store} (r : RelS K as H S) : ∀ (n : Nat) (ds : List D) (ps : List PyData) (vs : List V), ds.mapM (pd S n) = some ps → RepVs K as H ds vs → DpAll K H vs ps ∧ PyData.canLayAll0 ps = true ∧ PyData.depthAll ps ≤ n
  | n, [], ps, vs, h, q => by
    simp only [List.mapM_nil] at h
    simp only [RepVs] at q
    cases h; subst q
    exact ⟨.nil, by simp [PyData.canLayAll0], by simp [PyData.depthAll]⟩
  | n, d :: ds, ps, vs, h, q => by
    simp only [List.mapM_cons] at h
    simp only [RepVs] at q
    obtain ⟨v, u, rfl, q1, q2⟩ := q
    cases e1 : pd S n d with
    | none => rw [e1] at h; cases h
    | some p =>
      cases e2 : ds.mapM (pd S n) with
      | none => rw [e1, e2] at h; cases h
      | some ps' =>
        rw [e1, e2] at h
        cases h
        obtain ⟨a1, a2, a3⟩ := repV_lst r n d p v e1 q1
        obtain ⟨b1, b2, b3⟩ := repVs_lst r n ds ps' u e2 q2
        exact ⟨.cons a1 b1, by simp [PyData.canLayAll0, a2, b2], by simp only [PyData.depthAll]; omega⟩
end
theorem shaped_of {p : PyData} {n : Nat} (h : p.canLay0 = true) (hd : p.depth ≤ n) (hn : n ≤ 64) : SeqAt.shaped p = true := by
  unfold SeqAt.shaped
  rw [h, Bool.true_and]
  exact decide_eq_true (Nat.le_trans hd hn)

section
variable {X : Cx}
/-! ### + - * // % ** -/
theorem log_ok {j : Int} (h : 0 < j) (h2 : j < 1267650600228229401496703205376) : CDivW 0 j := wide_div (b := 100) h (by omega) (by decide) (by decide)
theorem flat_foldl {α : Type} (x : Array α) : ∀ (n : Nat) (acc : Array α), ((List.replicate n x).foldl (· ++ ·) acc) = (acc.toList ++ (List.replicate n x.toList).flatten).toArray
  | 0, acc => by simp
  | n + 1, acc => by
    rw [List.replicate_succ, List.foldl_cons, flat_foldl x n, List.replicate_succ, List.flatten_cons]
    simp
theorem flat_len {α : Type} (x : List α) (n : Nat) : (List.replicate n x).flatten.length = n * x.length := by
  induction n with
  | zero => simp
  | succ n ih => rw [List.replicate_succ, List.flatten_cons, List.length_append, ih, Nat.succ_mul]; omega
theorem mul_str_op {pins : List (Addr × Obj)} {s : Shared} {σ : L2.St} {H : Hp} {Q : VK} (I : Inv X pins σ H s) (a : Str) (t u : Tok) (j : Int) (h1 : -1000 ≤ j) (h2 : j ≤ 1000) (h3 : a.length ≤ 1000)
    (q : Q (.str ⟨(List.replicate j.toNat a.cps.toList).flatten.toArray⟩) H) : wpAny (model X.prog X.w) X.A (binaryOp .Mult (.str a t) (.int j u)) (EP X pins σ Q) X.xe s := by
  refine PySem.P.mul_str (by simp; omega) (fun _ _ => ?_) (fun _ _ => ?_) ?_
  · have : (9223372036854775 : Int) ≤ (2 ^ 63 - 1) / j := by
      rw [Int.le_ediv_iff_mul_le (by omega)]
      omega
    omega
  · have : a.length * j.toNat ≤ 1000 * 1000 := Nat.mul_le_mul h3 (by omega)
    unfold PySem.Builtin.Str.tooLong
    have hz := sizeLine_eq
    rw [decide_eq_false_iff_not]
    omega
  · split
    · rename_i hj
      have e : j.toNat = 0 := by omega
      rw [e] at q
      refine ⟨by decide, ⟨.str Str.empty, H, I.tok _, ⟨_, rfl⟩, ?_⟩⟩
      have e0 : Str.empty = ⟨#[]⟩ := rfl
      rw [e0]
      simpa using q
    · split
      · rename_i hj hb
        refine ⟨.str a, H, I, ⟨_, rfl⟩, ?_⟩
        rcases Bool.or_eq_true_iff.mp hb with hb | hb
        · have e : j = 1 := by simpa using hb
          subst e
          simpa using q
        · have e : a.cps.toList = [] := by
            have : a.length = 0 := by simpa using hb
            exact List.eq_nil_of_length_eq_zero this
          have e2 : a = ⟨#[]⟩ := by
            obtain ⟨c⟩ := a
            simp at e
            rw [e]
          rw [e2] at q ⊢
          simpa using q
      · rw [flat_foldl]
        simp only [List.nil_append]
        refine ⟨?_, ⟨.str _, H, I.tok _, ⟨_, rfl⟩, q⟩⟩
        show (List.toArray _).size ≤ _
        rw [List.size_toArray, flat_len]
        have : j.toNat * a.cps.toList.length ≤ 1000 * 1000 := Nat.mul_le_mul (by omega) h3
        have hz := sizeLine_eq
        omega
theorem binop_ok (op : Operator) : OpR X (binaryOp op) (rD2 X.K (binop op)) := by
  intro pins s σ H x y v u Q I rx ry h
  obtain ⟨EX, as, S, dx, dy, rel, hx, hy, h⟩ := h
  unfold binop at h
  split at h
  · simp only [RepV] at hx hy
    exact op_add pins s σ H x y v u Q I rx ry ⟨_, _, hx, hy, h.here rel _ (by simp only [RepV])⟩
  · simp only [RepV] at hx hy
    split at h
    · rename_i hl
      exact op_add_str pins s σ H x y v u Q I rx ry ⟨_, _, hx.1, hy.1, hl, h.here rel _ (by simp only [RepV]; exact ⟨trivial, strOk_app hx.2 hy.2⟩)⟩
    · exact h.elim
  · simp only [RepV] at hx hy
    split at h
    · rename_i hl
      obtain ⟨a, vs, rfl, h1, l1, t1⟩ := hx
      obtain ⟨b, ws, rfl, h2, l2, t2⟩ := hy
      have e1 := t1.length
      have e2 := t2.length
      refine op_catA pins s σ H _ _ v u Q I rx ry ⟨a, b, vs, ws, rfl, rfl, h1, h2, by omega, fun e => ?_, fun _ e => ?_, fun _ _ p hp => ?_⟩
      · subst e
        refine h.here rel _ ?_
        simp only [RepV]
        exact ⟨b, ws, rfl, h2, by rw [List.length_append]; exact hl, by simpa using RepVs.append t1 t2⟩
      · subst e
        refine h.here rel _ ?_
        simp only [RepV]
        exact ⟨a, vs, rfl, h1, by rw [List.length_append]; exact hl, by simpa using RepVs.append t1 t2⟩
      · exact Post.tup h rel hp (by rw [List.length_append]; exact hl) (t1.append t2)
    · exact h.elim
  · simp only [RepV] at hx hy
    split at h
    · rename_i ei ej
      split at h
      · rename_i hl
        obtain ⟨a, rfl, ha⟩ := hx
        obtain ⟨b, rfl, hb⟩ := hy
        obtain ⟨vs, e1, l1, t1⟩ := rel.cell _ _ _ ei ha
        obtain ⟨ws, e2, l2, t2⟩ := rel.cell _ _ _ ej hb
        have k1 := t1.length
        have k2 := t2.length
        exact op_cat pins s σ H _ _ v u Q I rx ry ⟨a, b, vs, ws, rfl, rfl, e1, e2, by omega, fun p hp => Post.lst h rel hp (by rw [List.length_append]; exact hl) (t1.append t2)⟩
      · exact h.elim
    · exact h.elim
  · simp only [RepV] at hx hy
    exact op_sub pins s σ H x y v u Q I rx ry ⟨_, _, hx, hy, h.here rel _ (by simp only [RepV])⟩
  · simp only [RepV] at hx hy
    split at h
    · rename_i hc
      exact op_mul pins s σ H x y v u Q I rx ry ⟨_, _, hx, hy, hc, h.here rel _ (by simp only [RepV])⟩
    · exact h.elim
  · simp only [RepV] at hx hy
    split at h
    · rename_i hc
      obtain ⟨rfl, hs⟩ := hx
      subst hy
      obtain ⟨t, rfl⟩ := rx
      obtain ⟨t', rfl⟩ := ry
      refine mul_str_op I _ _ _ _ hc.1 hc.2.1 hc.2.2 (h.here rel _ ?_)
      simp only [RepV]
      refine ⟨trivial, strOk_sub hs fun c hm => ?_⟩
      simp at hm
      obtain ⟨l, ⟨_, rfl⟩, hm⟩ := hm
      simpa using hm
    · exact h.elim
  · simp only [RepV] at hx hy
    split at h
    · rename_i hc
      exact op_fdivW pins s σ H x y v u Q I rx ry ⟨_, _, hx, hy, ⟨hc.1, (log_ok hc.1 hc.2).2⟩, h.here rel _ (by simp only [RepV])⟩
    · exact h.elim
  · simp only [RepV] at hx hy
    split at h
    · rename_i hc
      exact op_mod pins s σ H x y v u Q I rx ry ⟨_, _, hx, hy, hc, h.here rel _ (by simp only [RepV])⟩
    · exact h.elim
  · simp only [RepV] at hx hy
    split at h
    · rename_i hc
      exact op_pow pins s σ H x y v u Q I rx ry ⟨_, _, hx, hy, ⟨hc.1, by omega, by omega⟩, h.here rel _ (by simp only [RepV])⟩
    · exact h.elim
  · exact h.elim

/-! ### comparisons -/
theorem here_bl {EX : XW} {as : List Addr} {H : Hp} {S : Store} {Q : VK} {o : Option Bool} {b : Bool} (h : Post X.K EX as H (retB o S) (VQ X.K Q)) (rel : RelS X.K as H S) (e : o = some b) : Q (.bl b) H := by
  subst e
  exact Post.here (a := D.bl b) h rel _ (by simp only [RepV])
theorem repV_non {K : PySem.W.Frag} {as : List Addr} {H : Hp} : ∀ {d : D} {v : V}, RepV K as H d v → decide (v = .non) = isNon d
  | .non, _, h => by simp only [RepV] at h; subst h; rfl
  | .bl _, _, h => by simp only [RepV] at h; subst h; rfl
  | .int _, _, h => by simp only [RepV] at h; subst h; rfl
  | .str _, _, h => by simp only [RepV] at h; rw [h.1]; rfl
  | .tup _, _, h => by simp only [RepV] at h; obtain ⟨_, _, rfl, _⟩ := h; rfl
  | .fzl _, _, h => by simp only [RepV] at h; obtain ⟨_, _, rfl, _⟩ := h; rfl
  | .ref _, _, h => by simp only [RepV] at h; obtain ⟨_, rfl, _⟩ := h; rfl
theorem eqD_reads {as : List Addr} {H : Hp} {S : Store} (rel : RelS X.K as H S) {dx dy : D} {x y : V} {b : Bool} (hx : RepV X.K as H dx x) (hy : RepV X.K as H dy y) (h : eqD S dx dy = some b) :
    ∃ d e, Dp X.K H x d ∧ Dp X.K H y e ∧ SeqAt.shaped d = true ∧ SeqAt.shaped e = true ∧ b = PyData.eqv d e := by
  unfold eqD at h
  split at h
  · rename_i p q e1 e2
    obtain ⟨a1, a2, a3⟩ := repV_lst rel _ _ _ _ e1 hx
    obtain ⟨b1, b2, b3⟩ := repV_lst rel _ _ _ _ e2 hy
    exact ⟨p, q, a1, b1, shaped_of a2 a3 (by decide), shaped_of b2 b3 (by decide), (Option.some.inj h).symm⟩
  · cases h
theorem ltD_cases {dx dy : D} {b : Bool} (h : ltD dx dy = some b) : (∃ i j, dx = .int i ∧ dy = .int j ∧ b = decide (i < j)) ∨ ∃ i j, dx = .str i ∧ dy = .str j ∧ b = decide (i.cps.toList < j.cps.toList) := by
  unfold ltD at h
  split at h
  · exact .inl ⟨_, _, rfl, rfl, (Option.some.inj h).symm⟩
  · exact .inr ⟨_, _, rfl, rfl, (Option.some.inj h).symm⟩
  · cases h
theorem retB_some {EX : XW} {as : List Addr} {H : Hp} {S : Store} {Q : D → Store → List Addr → Hp → Prop} {o : Option Bool} (h : Post X.K EX as H (retB o S) Q) : ∃ b, o = some b := by
  cases o with
  | none => exact h.elim
  | some b => exact ⟨b, rfl⟩
end
end Pv
set_option Elab.async false
set_option linter.all false
set_option maxRecDepth 100000
set_option maxHeartbeats 1000000
/-! comparisons, subscripts, slices, built-ins, methods, by values -/
namespace Pv
open PySem PySem.Spec PyProof.Rows L2

theorem sign_of {s : Str} {c : Nat} (h : s.cps.toList = [c]) : s = ⟨#[c]⟩ := by
  obtain ⟨a⟩ := s
  congr 1
  exact Array.toList_inj.mp (by simpa using h)
theorem keyD_rep {K : PySem.W.Frag} {as : List Addr} {H : Hp} {d : D} {v : V} {k : Key} (h : RepV K as H d v) (e : keyD d = some k) : v = kV k ∧ keyOk k := by
  unfold keyD at e
  split at e
  · cases e; simp only [RepV] at h; exact ⟨h, trivial⟩
  · cases e; simp only [RepV] at h; exact h
  · cases e
theorem RepK.keys {K : PySem.W.Frag} {as : List Addr} {H : Hp} : ∀ {kvs : List (Key × D)} {ks : List (Key × V)}, RepK K as H kvs ks → ks.map (·.1) = kvs.map (·.1)
  | [], _, h => by simp only [RepK] at h; subst h; rfl
  | (k, d) :: kvs, _, h => by
    obtain ⟨v, q, rfl, _, _, h2⟩ := h
    rw [List.map_cons, List.map_cons, RepK.keys h2]
theorem RepK.length {K : PySem.W.Frag} {as : List Addr} {H : Hp} {kvs : List (Key × D)} {ks : List (Key × V)} (h : RepK K as H kvs ks) : ks.length = kvs.length := by
  have := congrArg List.length h.keys
  simpa using this
theorem RepK.val {K : PySem.W.Frag} {as : List Addr} {H : Hp} (k : Key) : ∀ {kvs : List (Key × D)} {ks : List (Key × V)}, RepK K as H kvs ks →
    (dget kvs k = none ∧ valV ks k = none) ∨ ∃ d v, dget kvs k = some d ∧ valV ks k = some v ∧ RepV K as H d v
  | [], _, h => by simp only [RepK] at h; subst h; exact .inl ⟨rfl, rfl⟩
  | (j, d) :: kvs, _, h => by
    obtain ⟨v, q, rfl, _, h1, h2⟩ := h
    by_cases e : j = k
    · exact .inr ⟨d, v, by simp [dget, List.find?_cons, e], by simp [valV, List.find?_cons, e], h1⟩
    · have e1 : dget ((j, d) :: kvs) k = dget kvs k := by simp [dget, List.find?_cons, e]
      have e2 : valV ((j, v) :: q) k = valV q k := valV_neg e
      rw [e1, e2]
      exact RepK.val k h2
theorem RepK.any {K : PySem.W.Frag} {as : List Addr} {H : Hp} {kvs : List (Key × D)} {ks : List (Key × V)} (h : RepK K as H kvs ks) (k : Key) : (ks.any fun kv => decide (kv.1 = k)) = kvs.any fun kv => decide (kv.1 = k) := by
  have e := h.keys
  have e1 : (ks.map (·.1)).any (fun j => decide (j = k)) = (kvs.map (·.1)).any (fun j => decide (j = k)) := by rw [e]
  rw [List.any_map, List.any_map] at e1
  exact e1
theorem RepK.repl {K : PySem.W.Frag} {as : List Addr} {H : Hp} (k : Key) {d : D} {v : V} (g : RepV K as H d v) : ∀ {kvs : List (Key × D)} {ks : List (Key × V)}, RepK K as H kvs ks →
    RepK K as H (kvs.map fun kv => if kv.1 = k then (kv.1, d) else kv) (ks.map fun kv => if kv.1 = k then (kv.1, v) else kv)
  | [], _, h => by simp only [RepK] at h; subst h; simp only [List.map_nil, RepK]
  | (j, e) :: kvs, _, h => by
    obtain ⟨u, q, rfl, k1, h1, h2⟩ := h
    simp only [List.map_cons]
    by_cases z : j = k
    · simp only [if_pos z, RepK]
      exact ⟨v, _, rfl, k1, g, RepK.repl k g h2⟩
    · simp only [if_neg z, RepK]
      exact ⟨u, _, rfl, k1, h1, RepK.repl k g h2⟩
theorem RepK.snoc {K : PySem.W.Frag} {as : List Addr} {H : Hp} {k : Key} {d : D} {v : V} (hk : keyOk k) (g : RepV K as H d v) : ∀ {kvs : List (Key × D)} {ks : List (Key × V)}, RepK K as H kvs ks → RepK K as H (kvs ++ [(k, d)]) (ks ++ [(k, v)])
  | [], _, h => by
    simp only [RepK] at h; subst h
    exact ⟨v, [], rfl, hk, g, rfl⟩
  | (j, e) :: kvs, _, h => by
    obtain ⟨u, q, rfl, k1, h1, h2⟩ := h
    exact ⟨u, _, rfl, k1, h1, RepK.snoc hk g h2⟩
theorem RepK.put {K : PySem.W.Frag} {as : List Addr} {H : Hp} {kvs : List (Key × D)} {ks : List (Key × V)} (h : RepK K as H kvs ks) {k : Key} {d : D} {v : V} (hk : keyOk k) (g : RepV K as H d v) : RepK K as H (dput kvs k d) (putK ks k v) := by
  unfold dput putK
  rw [h.any k]
  split
  · exact h.repl k g
  · exact h.snoc hk g
theorem RepK.drop {K : PySem.W.Frag} {as : List Addr} {H : Hp} (k : Key) : ∀ {kvs : List (Key × D)} {ks : List (Key × V)}, RepK K as H kvs ks → RepK K as H (ddrop kvs k) (dropK ks k)
  | [], _, h => by simp only [RepK] at h; subst h; exact rfl
  | (j, e) :: kvs, _, h => by
    obtain ⟨u, q, rfl, k1, h1, h2⟩ := h
    by_cases z : j = k
    · simp only [ddrop, dropK, List.filter_cons, z, ne_eq, not_true_eq_false, decide_false, Bool.false_eq_true, if_false]
      exact RepK.drop k h2
    · simp only [ddrop, dropK, List.filter_cons, z, ne_eq, not_false_eq_true, decide_true, if_true]
      exact ⟨u, _, rfl, k1, h1, RepK.drop k h2⟩
theorem dput_len {α : Type} (kvs : List (Key × α)) (k : Key) (d : α) : (dput kvs k d).length ≤ kvs.length + 1 := by
  unfold dput
  split
  · rw [List.length_map]; omega
  · rw [List.length_append]; simp
theorem RepK.dkeys {K : PySem.W.Frag} {as : List Addr} {H : Hp} : ∀ {kvs : List (Key × D)} {ks : List (Key × V)}, RepK K as H kvs ks → RepVs K as H (kvs.map fun p => dkey p.1) (ks.map fun p => kV p.1)
  | [], _, h => by simp only [RepK] at h; subst h; simp only [List.map_nil, RepVs]
  | (k, d) :: kvs, _, h => by
    obtain ⟨v, q, rfl, k1, _, h2⟩ := h
    simp only [List.map_cons, RepVs]
    refine ⟨_, _, rfl, ?_, RepK.dkeys h2⟩
    cases k with
    | inl i => simp only [dkey, kV, RepV]
    | inr s => simp only [dkey, kV, RepV]; exact ⟨trivial, k1⟩
theorem RepK.merge {K : PySem.W.Frag} {as : List Addr} {H : Hp} : ∀ (more : List (Key × D)) {ms : List (Key × V)} {kvs : List (Key × D)} {ks : List (Key × V)}, RepK K as H more ms → RepK K as H kvs ks → RepK K as H (mergeD kvs more) (mergeK ks ms)
  | [], _, _, _, h, g => by simp only [RepK] at h; subst h; exact g
  | (k, d) :: more, _, kvs, ks, h, g => by
    obtain ⟨v, q, rfl, k1, h1, h2⟩ := h
    show RepK K as H (mergeD (dput kvs k d) more) (mergeK (putK ks k v) q)
    exact RepK.merge more h2 (g.put k1 h1)
theorem tail_slot {prog : Program} {w : World} {A : Around} {E : Value → Shared → Prop} {s : Shared} {value slice : Expr} {T id : String} {o i : Value} {Q : Value → Shared → Prop}
    (hl : typeLookup (.type T) "__getitem__" = pure (some (.builtin id))) (hs : subscripted slice false o i = operate [o, i] (getItem o i)) (hT : s.TypeIs o T)
    (h : wpAny (model prog w) A (getItem o i) Q E s) : wpAny (model prog w) A (subscriptTail value slice o i) Q E s := by
  unfold subscriptTail
  refine wpAny_bind ?_
  rw [getitemInPython_of_ne hT.not_modules]
  refine wpAny_bind (wpAny_specialOf hT hl ?_)
  have fin : wpAny (model prog w) A (subscripted slice false o i) (fun r s₃ => wpAny (model prog w) A (letTemporaryGo value o r >>= fun _ => pure r) Q E s₃) E s := by
    rw [hs]
    exact wpAny_operating (wpAny_mono h (fun r s₃ h₃ => wpAny_bind (wpAny_letTemporaryGo (wpAny_pure h₃))) fun _ _ x => x)
  first
    | exact wpAny_pure (wpAny_bind fin)
    | exact wpAny_bind (wpAny_pure (wpAny_bind fin))
    | exact wpAny_bind fin

section
variable {X : Cx}
theorem cmpop_ok (hu : X.A.units + 65 < cLine) (op : CmpOp) : OpR X (compareOp op) (rD2 X.K (cmpop op)) := by
  intro pins s σ H x y v u Q I rx ry h
  obtain ⟨EX, as, S, dx, dy, rel, hx, hy, h⟩ := h
  unfold cmpop at h
  cases op with
  | Eq =>
    obtain ⟨b, hb⟩ := retB_some h
    obtain ⟨p, q, h1, h2, h3, h4, e⟩ := eqD_reads rel hx hy hb
    exact op_eqD (by omega) pins s σ H x y v u Q I rx ry ⟨p, q, h1, h2, h3, h4, here_bl h rel (by rw [hb, e])⟩
  | NotEq =>
    obtain ⟨b, hb⟩ := retB_some h
    simp only [Option.map_eq_some_iff] at hb
    obtain ⟨b', hb, rfl⟩ := hb
    obtain ⟨p, q, h1, h2, h3, h4, e⟩ := eqD_reads rel hx hy hb
    exact op_neD (by omega) pins s σ H x y v u Q I rx ry ⟨p, q, h1, h2, h3, h4, here_bl h rel (by rw [hb, e]; rfl)⟩
  | Lt =>
    obtain ⟨b, hb⟩ := retB_some h
    rcases ltD_cases hb with ⟨i, j, rfl, rfl, e⟩ | ⟨i, j, rfl, rfl, e⟩
    · simp only [RepV] at hx hy
      exact op_lt pins s σ H x y v u Q I rx ry ⟨i, j, hx, hy, here_bl h rel (by rw [hb, e])⟩
    · simp only [RepV] at hx hy
      exact op_lt_str pins s σ H x y v u Q I rx ry ⟨i, j, hx.1, hy.1, here_bl h rel (by rw [hb, e])⟩
  | Gt =>
    obtain ⟨b, hb⟩ := retB_some h
    rcases ltD_cases hb with ⟨j, i, rfl, rfl, e⟩ | ⟨j, i, rfl, rfl, e⟩
    · simp only [RepV] at hx hy
      exact op_gt pins s σ H x y v u Q I rx ry ⟨i, j, hx, hy, here_bl h rel (by rw [hb, e])⟩
    · simp only [RepV] at hx hy
      exact op_gt_str pins s σ H x y v u Q I rx ry ⟨i, j, hx.1, hy.1, here_bl h rel (by rw [hb, e])⟩
  | LtE =>
    obtain ⟨b, hb⟩ := retB_some h
    simp only [Option.map_eq_some_iff] at hb
    obtain ⟨b', hb, rfl⟩ := hb
    rcases ltD_cases hb with ⟨j, i, rfl, rfl, e⟩ | ⟨j, i, rfl, rfl, e⟩
    · simp only [RepV] at hx hy
      refine op_le pins s σ H x y v u Q I rx ry ⟨i, j, hx, hy, here_bl h rel ?_⟩
      rw [hb, e, Option.map_some]
      congr 1
      by_cases z : j < i
      · rw [decide_eq_true z, decide_eq_false (by omega)]; rfl
      · rw [decide_eq_false z, decide_eq_true (by omega)]; rfl
    · simp only [RepV] at hx hy
      exact op_le_str pins s σ H x y v u Q I rx ry ⟨i, j, hx.1, hy.1, here_bl h rel (by rw [hb, e]; rfl)⟩
  | GtE =>
    obtain ⟨b, hb⟩ := retB_some h
    simp only [Option.map_eq_some_iff] at hb
    obtain ⟨b', hb, rfl⟩ := hb
    rcases ltD_cases hb with ⟨i, j, rfl, rfl, e⟩ | ⟨i, j, rfl, rfl, e⟩
    · simp only [RepV] at hx hy
      refine op_ge pins s σ H x y v u Q I rx ry ⟨i, j, hx, hy, here_bl h rel ?_⟩
      rw [hb, e, Option.map_some]
      congr 1
      by_cases z : i < j
      · rw [decide_eq_true z, decide_eq_false (by omega)]; rfl
      · rw [decide_eq_false z, decide_eq_true (by omega)]; rfl
    · simp only [RepV] at hx hy
      exact op_ge_str pins s σ H x y v u Q I rx ry ⟨i, j, hx.1, hy.1, here_bl h rel (by rw [hb, e]; rfl)⟩
  | Is =>
    cases dy with
    | non =>
      simp only [RepV] at hy
      refine op_isN pins s σ H x y v u Q I rx ry ⟨hy, ?_⟩
      rw [repV_non hx]
      exact Post.here (a := D.bl (isNon dx)) h rel _ (by simp only [RepV])
    | _ => exact h.elim
  | IsNot =>
    cases dy with
    | non =>
      simp only [RepV] at hy
      refine op_notN pins s σ H x y v u Q I rx ry ⟨hy, ?_⟩
      rw [repV_non hx]
      exact Post.here (a := D.bl (!isNon dx)) h rel _ (by simp only [RepV])
    | _ => exact h.elim
  | In =>
    obtain ⟨b, hb⟩ := retB_some h
    have fin : ∀ {c : Bool}, c = b → Q (.bl c) H := fun e => by subst e; exact here_bl h rel hb
    unfold inD at hb
    split at hb
    · split at hb
      · split at hb
        · rename_i e
          cases hb
          simp only [RepV] at hx hy
          exact op_in_sign pins s σ H x y v u Q I rx ry ⟨_, _, by rw [hx.1, sign_of e], hy.1, fin rfl⟩
        · cases hb
      · cases hb
    · simp only [RepV] at hy
      obtain ⟨a, rfl, ha⟩ := hy
      split at hb
      · rename_i e
        split at hb
        · rename_i p ps e1 e2
          cases hb
          obtain ⟨vs, z1, l, t⟩ := rel.cell _ _ _ e ha
          obtain ⟨a1, a2, a3⟩ := repV_lst rel _ _ _ _ e1 hx
          obtain ⟨b1, b2, b3⟩ := repVs_lst rel _ _ _ _ e2 t
          exact op_inD hu pins s σ H x _ v u Q I rx ry ⟨p, ps, a1, .lst (SqL.of z1) b1, shaped_of a2 a3 (by decide), shaped_of (n := 60) (by simpa [PyData.canLay0] using b2) (by simp only [PyData.depth]; omega) (by decide), fin rfl⟩
        · cases hb
      · rename_i lk kvs e
        split at hb
        · rename_i k ek
          cases hb
          obtain ⟨rfl, hk⟩ := keyD_rep hx ek
          have go : ∀ ks, Rd H a (.dK ks) → RepK X.K as H kvs ks → wpAny (model X.prog X.w) X.A (compareOp .In v u) (EP X pins σ Q) X.xe s := fun ks hr hk' => by
            obtain rfl : u = Value.ref a := ry
            refine d_in (o := valV ks k) (by omega) I (.inl ⟨ks, k, hr, rfl, rfl⟩) rx fun s' I' => ⟨.bl _, H, I', rfl, fin ?_⟩
            rcases hk'.val k with ⟨e1, e2⟩ | ⟨d, v, e1, e2, _⟩
            · rw [e1, e2]
              rfl
            · rw [e1, e2]
              rfl
          cases lk with
          | false => obtain ⟨ks, z1, l, t⟩ := rel.cell _ _ _ e ha; exact go ks (.inl z1) t
          | true => obtain ⟨o, ks, z1, l, t⟩ := rel.cell _ _ _ e ha; exact go ks (.inr ⟨o, z1⟩) t
        · cases hb
      · cases hb
    · split at hb
      · rename_i p ps e1 e2
        cases hb
        simp only [RepV] at hy
        obtain ⟨a, vs, rfl, hq, l, t⟩ := hy
        obtain ⟨a1, a2, a3⟩ := repV_lst rel _ _ _ _ e1 hx
        obtain ⟨b1, b2, b3⟩ := repVs_lst rel _ _ _ _ e2 t
        obtain ⟨bs, r1⟩ := Dp.reads I _ _ _ a1 rx
        obtain ⟨cs, r2⟩ := Dp.reads I (.tuple ps) _ _ (.tup hq b1) ry
        exact SeqAt.in_tuple_reads r2 r1 b2 a2 (by omega) ⟨.bl _, H, I, rfl, fin rfl⟩
      · cases hb
    · cases hb
  | NotIn =>
    obtain ⟨b, hb⟩ := retB_some h
    simp only [Option.map_eq_some_iff] at hb
    obtain ⟨b', hb, rfl⟩ := hb
    have fin : ∀ {c : Bool}, c = b' → Q (.bl (!c)) H := fun e => by subst e; exact here_bl h rel (by rw [hb]; rfl)
    unfold inD at hb
    split at hb
    · split at hb
      · split at hb
        · rename_i e
          cases hb
          simp only [RepV] at hx hy
          exact op_notIn_sign pins s σ H x y v u Q I rx ry ⟨_, _, by rw [hx.1, sign_of e], hy.1, fin rfl⟩
        · cases hb
      · cases hb
    · simp only [RepV] at hy
      obtain ⟨a, rfl, ha⟩ := hy
      split at hb
      · rename_i e
        split at hb
        · rename_i p ps e1 e2
          cases hb
          obtain ⟨vs, z1, l, t⟩ := rel.cell _ _ _ e ha
          obtain ⟨a1, a2, a3⟩ := repV_lst rel _ _ _ _ e1 hx
          obtain ⟨b1, b2, b3⟩ := repVs_lst rel _ _ _ _ e2 t
          exact op_notInD hu pins s σ H x _ v u Q I rx ry ⟨p, ps, a1, .lst (SqL.of z1) b1, shaped_of a2 a3 (by decide), shaped_of (n := 60) (by simpa [PyData.canLay0] using b2) (by simp only [PyData.depth]; omega) (by decide), fin rfl⟩
        · cases hb
      · rename_i lk kvs e
        split at hb
        · rename_i k ek
          cases hb
          obtain ⟨rfl, hk⟩ := keyD_rep hx ek
          have go : ∀ ks, Rd H a (.dK ks) → RepK X.K as H kvs ks → wpAny (model X.prog X.w) X.A (compareOp .NotIn v u) (EP X pins σ Q) X.xe s := fun ks hr hk' => by
            obtain rfl : u = Value.ref a := ry
            refine d_notIn (o := valV ks k) (by omega) I (.inl ⟨ks, k, hr, rfl, rfl⟩) rx fun s' I' => ⟨.bl _, H, I', rfl, fin ?_⟩
            rcases hk'.val k with ⟨e1, e2⟩ | ⟨d, v, e1, e2, _⟩
            · rw [e1, e2]
              rfl
            · rw [e1, e2]
              rfl
          cases lk with
          | false => obtain ⟨ks, z1, l, t⟩ := rel.cell _ _ _ e ha; exact go ks (.inl z1) t
          | true => obtain ⟨o, ks, z1, l, t⟩ := rel.cell _ _ _ e ha; exact go ks (.inr ⟨o, z1⟩) t
        · cases hb
      · cases hb
    · split at hb
      · rename_i p ps e1 e2
        cases hb
        simp only [RepV] at hy
        obtain ⟨a, vs, rfl, hq, l, t⟩ := hy
        obtain ⟨a1, a2, a3⟩ := repV_lst rel _ _ _ _ e1 hx
        obtain ⟨b1, b2, b3⟩ := repVs_lst rel _ _ _ _ e2 t
        obtain ⟨bs, r1⟩ := Dp.reads I _ _ _ a1 rx
        obtain ⟨cs, r2⟩ := Dp.reads I (.tuple ps) _ _ (.tup hq b1) ry
        exact SeqAt.notIn_tuple_reads r2 r1 b2 a2 (by omega) ⟨.bl _, H, I, rfl, fin rfl⟩
      · cases hb
    · cases hb

/-! ### o[i] -/
theorem atI_rep {K : PySem.W.Frag} {as : List Addr} {H : Hp} {ds : List D} {vs : List V} {k : Int} {d : D} (t : RepVs K as H ds vs) (e : atI ds k = some d) : ∃ v, atI vs k = some v ∧ RepV K as H d v := by
  unfold atI at e ⊢
  rw [t.length]
  cases h : ixN ds.length k with
  | none => rw [h] at e; cases e
  | some j =>
    rw [h] at e
    exact t.get j d e
theorem subD_ok (hu : X.A.units + 65 < cLine) : IxR X (rD2 X.K subD) := by
  intro value slice pins s σ H x y v u Q I rx ry h hs
  obtain ⟨EX, as, S, dx, dy, rel, hx, hy, h⟩ := h
  unfold subD at h
  split at h
  · simp only [RepV] at hx hy
    obtain ⟨a, vs, rfl, hq, l, t⟩ := hx
    split at h
    · rename_i e
      obtain ⟨w, e1, r1⟩ := atI_rep t e
      exact ix_tup value slice pins s σ H _ y v u Q I rx ry ⟨a, vs, _, w, rfl, hy, hq, e1, h.here rel _ r1⟩ hs
    · exact h.elim
  · simp only [RepV] at hx hy
    obtain ⟨a, vs, rfl, hq, l, t⟩ := hx
    split at h
    · rename_i e
      obtain ⟨w, e1, r1⟩ := atI_rep t e
      exact ix_list value slice pins s σ H _ y v u Q I rx ry ⟨a, vs, _, w, rfl, hy, FzL.sq _ hq, e1, h.here rel _ r1⟩ hs
    · exact h.elim
  · simp only [RepV] at hx hy
    split at h
    · rename_i hl
      split at h
      · rename_i e
        refine ix_str value slice pins s σ H x y v u Q I rx ry ⟨_, _, _, hx.1, hy, hl, e, h.here rel _ ?_⟩ hs
        simp only [sign, RepV]
        refine ⟨trivial, strOk_sub hx.2 fun c hc => ?_⟩
        simp at hc
        subst hc
        obtain ⟨j, _, hj, _⟩ := atI_get e
        exact List.mem_of_getElem? hj
      · exact h.elim
    · exact h.elim
  · simp only [RepV] at hx
    obtain ⟨a, rfl, ha⟩ := hx
    split at h
    · rename_i e
      obtain ⟨vs, z1, l, t⟩ := rel.cell _ _ _ e ha
      split at h
      · simp only [RepV] at hy
        split at h
        · rename_i e
          obtain ⟨w, e1, r1⟩ := atI_rep t e
          exact ix_list value slice pins s σ H _ y v u Q I rx ry ⟨a, vs, _, w, rfl, hy, SqL.of z1, e1, h.here rel _ r1⟩ hs
        · exact h.elim
      · exact h.elim
    · rename_i lk kvs e
      split at h
      · rename_i k ek
        obtain ⟨rfl, hk⟩ := keyD_rep hy ek
        split at h
        · rename_i d ed
          have go : ∀ ks, Rd H a (.dK ks) → RepK X.K as H kvs ks → wpAny (model X.prog X.w) X.A (subscriptTail value slice v u) (EP X pins σ Q) X.xe s := fun ks hr hk' => by
            obtain rfl : v = Value.ref a := rx
            rcases hk'.val k with ⟨e1, _⟩ | ⟨d', w, e1, e2, r1⟩
            · rw [ed] at e1; cases e1
            · rw [ed] at e1; cases e1
              have g : DGet H a (kV k) (some w) := .inl ⟨ks, k, hr, rfl, e2.symm⟩
              exact tail_slot PySem.F.slot_dict_getitem.lookup hs (dict_typeIs I g) (d_getItem (by omega) I g ry fun w' s' I' r' => ⟨w, H, I', r', h.here rel _ r1⟩)
          cases lk with
          | false => obtain ⟨ks, z1, l, t⟩ := rel.cell _ _ _ e ha; exact go ks (.inl z1) t
          | true => obtain ⟨o, ks, z1, l, t⟩ := rel.cell _ _ _ e ha; exact go ks (.inr ⟨o, z1⟩) t
        · exact h.elim
      · exact h.elim
    · exact h.elim
  · exact h.elim
end
end Pv
set_option Elab.async false
set_option linter.all false
set_option maxRecDepth 100000
set_option maxHeartbeats 1000000
/-! slices, built-ins, methods, stores by place, by values -/
namespace Pv
open PySem PySem.Spec PyProof.Rows L2

/-! ### texts in order -/
theorem leS_iff (a b : Str) : leS a b = true ↔ a.cps.toList ≤ b.cps.toList := by
  unfold leS
  rw [Bool.not_eq_true', decide_eq_false_iff_not, List.not_lt]
theorem leS_trans (a b c : Str) (h : leS a b = true) (g : leS b c = true) : leS a c = true := by
  rw [leS_iff] at *
  exact List.le_trans h g
theorem leS_total (a b : Str) : (leS a b || leS b a) = true := by
  rw [Bool.or_eq_true, leS_iff, leS_iff]
  exact List.le_total _ _
theorem leS_anti (a b : Str) (h : leS a b = true) (g : leS b a = true) : a = b := by
  rw [leS_iff] at *
  have := List.le_antisymm h g
  obtain ⟨x⟩ := a
  obtain ⟨y⟩ := b
  congr 1
  exact Array.toList_inj.mp this
theorem rising_pw : ∀ (p : Str) (l : List Str), risingS p l = true → (p :: l).Pairwise fun a b => leS a b = true
  | p, [], _ => List.pairwise_singleton _ _
  | p, x :: r, h => by
    unfold risingS at h
    rw [Bool.and_eq_true] at h
    have h2 := rising_pw x r h.2
    have h1 : leS p x = true := by
      unfold leS
      rw [← ltCps_eq]
      exact h.1
    refine List.pairwise_cons.mpr ⟨fun y hy => ?_, h2⟩
    rcases List.mem_cons.mp hy with rfl | hy
    · exact h1
    · exact leS_trans _ _ _ h1 ((List.pairwise_cons.mp h2).1 y hy)
theorem sorted_pw {l : List Str} (h : sortedS l = true) : l.Pairwise fun a b => leS a b = true := by
  cases l with
  | nil => exact .nil
  | cons x r => exact rising_pw x r h
theorem sorted_eq {ys zs : List Str} (h : sortedS ys = true) (p : ys.Perm zs) : ys = zs.mergeSort leS :=
  (p.trans (List.mergeSort_perm zs leS).symm).eq_of_pairwise (fun a b _ _ => leS_anti a b) (sorted_pw h) (List.pairwise_mergeSort leS_trans leS_total zs)
theorem sortedI_eq {ys zs : List Int} (h : ys.Pairwise (· ≤ ·)) (p : ys.Perm zs) : ys = zs.mergeSort fun a b => decide (a ≤ b) := by
  refine (p.trans (List.mergeSort_perm zs _).symm).eq_of_pairwise (le := fun a b => decide (a ≤ b) = true) (fun a b _ _ h1 h2 => ?_) (h.imp fun z => decide_eq_true z) (List.pairwise_mergeSort ?_ ?_ zs)
  · simp at h1 h2; omega
  · intro a b c h1 h2; simp at *; omega
  · intro a b; simp; omega
theorem strsD_map : ∀ ss : List Str, strsD (ss.map .str) = some ss
  | [] => rfl
  | s :: ss => by rw [List.map_cons, strsD, strsD_map ss]; rfl
theorem intsD_map : ∀ ss : List Int, intsD (ss.map .int) = some ss
  | [] => rfl
  | s :: ss => by rw [List.map_cons, intsD, intsD_map ss]; rfl
theorem blsD_map : ∀ ss : List Bool, blsD (ss.map .bl) = some ss
  | [] => rfl
  | s :: ss => by rw [List.map_cons, blsD, blsD_map ss]; rfl

def rDs (K : PySem.W.Frag) : V → Option Int → Option Int → Hp → VK → Prop := fun x lo hi H Q => ∃ (EX : XW) (as : List Addr) (S : Store) (dx : D), RelS K as H S ∧ RepV K as H dx x ∧ Post K EX as H (slcD dx lo hi S) (VQ K Q)
def rDm (K : PySem.W.Frag) (m : D → List D → Store → R D) : V → List V → Hp → VK → Prop := fun x xs H Q => ∃ (EX : XW) (as : List Addr) (S : Store) (dx : D) (ds : List D), RelS K as H S ∧ RepV K as H dx x ∧ RepVs K as H ds xs ∧ Post K EX as H (m dx ds S) (VQ K Q)
theorem cut_len {α : Type} (xs : List α) (lo hi : Option Int) : (cutD xs lo hi).length ≤ xs.length := by
  unfold cutD
  rw [List.length_take, List.length_drop]
  omega
theorem cut_rep {K : PySem.W.Frag} {as : List Addr} {H : Hp} {ds : List D} {vs : List V} (t : RepVs K as H ds vs) (lo hi : Option Int) : RepVs K as H (cutD ds lo hi) (cutV vs lo hi) := by
  unfold cutD cutV
  rw [t.length]
  exact (t.drop _).take _
theorem cut_all {α : Type} {xs : List α} {lo hi : Option Int} (h : HT.sIx xs.length 0 lo = 0 ∧ HT.sIx xs.length xs.length hi = xs.length) : cutD xs lo hi = xs := by
  unfold cutD
  rw [h.1, h.2]
  simp
section
variable {X : Cx}
theorem slcD_ok : SlR X (rDs X.K) := by
  intro pins s σ H x v vl vu lo hi sl Q I rx hs pl pu h
  obtain ⟨EX, as, S, dx, rel, hx, h⟩ := h
  unfold slcD at h
  split at h
  · simp only [RepV] at hx
    obtain ⟨a, vs, rfl, hq, l, t⟩ := hx
    have e := t.length
    refine sl_tupA pins s σ H _ v vl vu lo hi sl Q I rx hs pl pu ⟨a, vs, rfl, hq, fun z => ?_, fun _ p hp => Post.tup h rel hp (Nat.le_trans (cut_len _ _ _) l) (cut_rep t lo hi)⟩
    rw [cut_all (by rw [← e]; exact z)] at h
    refine h.here rel _ ?_
    simp only [RepV]
    exact ⟨a, vs, rfl, hq, l, t⟩
  · simp only [RepV] at hx
    obtain ⟨a, vs, rfl, hq, l, t⟩ := hx
    exact sl_list pins s σ H _ v vl vu lo hi sl Q I rx hs pl pu ⟨a, vs, rfl, FzL.sq _ hq, fun p hp => Post.lst h rel hp (Nat.le_trans (cut_len _ _ _) l) (cut_rep t lo hi)⟩
  · simp only [RepV] at hx
    split at h
    · rename_i hl
      refine sl_str pins s σ H _ v vl vu lo hi sl Q I rx hs pl pu ⟨_, hx.1, hl, h.here rel _ ?_⟩
      simp only [RepV]
      refine ⟨trivial, strOk_sub hx.2 fun c hc => ?_⟩
      unfold cutS at hc
      simp only [List.toList_toArray] at hc
      exact List.mem_of_mem_drop (List.mem_of_mem_take hc)
    · exact h.elim
  · simp only [RepV] at hx
    obtain ⟨a, rfl, ha⟩ := hx
    split at h
    · rename_i e
      obtain ⟨vs, z1, l, t⟩ := rel.cell _ _ _ e ha
      exact sl_list pins s σ H _ v vl vu lo hi sl Q I rx hs pl pu ⟨a, vs, rfl, SqL.of z1, fun p hp => Post.lst h rel hp (Nat.le_trans (cut_len _ _ _) l) (cut_rep t lo hi)⟩
    · exact h.elim
  · exact h.elim

/-! ### built-ins -/
def bval : B → Value
  | .len => .builtin "len" | .abs => .builtin "abs" | .all => .builtin "all" | .sum => .builtin "sum" | .min1 => .builtin "min" | .max1 => .builtin "max" | .min2 => .builtin "min" | .max2 => .builtin "max"
  | .list => .type "list" | .tuple => .type "tuple" | .dict => .type "dict" | .int => .type "int" | .str => .type "str" | .repr => .builtin "repr" | .sorted => .builtin "sorted"
theorem repVs1 {K : PySem.W.Frag} {as : List Addr} {H : Hp} {d : D} {xs : List V} (h : RepVs K as H [d] xs) : ∃ x, xs = [x] ∧ RepV K as H d x := by
  simp only [RepVs] at h
  obtain ⟨v, r, rfl, h1, rfl⟩ := h
  exact ⟨v, rfl, h1⟩
theorem repVs2 {K : PySem.W.Frag} {as : List Addr} {H : Hp} {d e : D} {xs : List V} (h : RepVs K as H [d, e] xs) : ∃ x y, xs = [x, y] ∧ RepV K as H d x ∧ RepV K as H e y := by
  simp only [RepVs] at h
  obtain ⟨v, r, rfl, h1, w, q, rfl, h2, rfl⟩ := h
  exact ⟨v, w, rfl, h1, h2⟩
/-- where a walked thing stands -/
inductive Sq (K : PySem.W.Frag) (H : Hp) : V → List V → Prop where
  | l {a : Addr} {xs : List V} (h : SqL K H a xs) : Sq K H (.ref a) xs
  | t {a : Addr} {xs : List V} (h : SqT K H a xs) : Sq K H (.ref a) xs
  | d {a : Addr} {ks : List (Key × V)} (h : Rd H a (.dK ks)) : Sq K H (.ref a) (ks.map fun p => kV p.1)
theorem seqD_sq {K : PySem.W.Frag} {as : List Addr} {H : Hp} {S : Store} (rel : RelS K as H S) {d : D} {x : V} {xs : List D} (h : RepV K as H d x) (e : seqD d S = some xs) : ∃ vs, Sq K H x vs ∧ RepVs K as H xs vs ∧ xs.length ≤ sizeLine := by
  unfold seqD at e
  split at e
  · cases e
    simp only [RepV] at h
    obtain ⟨a, vs, rfl, hq, l, t⟩ := h
    exact ⟨vs, .t hq, t, l⟩
  · cases e
    simp only [RepV] at h
    obtain ⟨a, vs, rfl, hq, l, t⟩ := h
    exact ⟨vs, .l (FzL.sq _ hq), t, l⟩
  · simp only [RepV] at h
    obtain ⟨a, rfl, ha⟩ := h
    split at e
    · rename_i e1
      cases e
      obtain ⟨vs, z1, l, t⟩ := rel.cell _ _ _ e1 ha
      exact ⟨vs, .l (SqL.of z1), t, l⟩
    · rename_i lk kvs e1
      cases e
      cases lk with
      | false =>
        obtain ⟨ks, z1, l, t⟩ := rel.cell _ _ _ e1 ha
        exact ⟨_, .d (.inl z1), t.dkeys, by rw [List.length_map]; exact l⟩
      | true =>
        obtain ⟨o, ks, z1, l, t⟩ := rel.cell _ _ _ e1 ha
        exact ⟨_, .d (.inr ⟨o, z1⟩), t.dkeys, by rw [List.length_map]; exact l⟩
    · cases e
  · cases e
theorem pairs_rep {K : PySem.W.Frag} {as : List Addr} {H : Hp} : ∀ {xs : List D} {vs : List V} {ps : List (Key × D)}, RepVs K as H xs vs → pairsD xs = some ps → ∃ (qs : List Addr) (ks : List (Key × V)), vs = qs.map V.ref ∧ RepK K as H ps ks ∧ Paired (fun p kv => SqT K H p [kV kv.1, kv.2]) qs ks
  | [], vs, ps, h, e => by
    simp only [RepVs] at h
    simp only [pairsD, Option.some.injEq] at e
    subst h e
    exact ⟨[], [], rfl, rfl, .nil⟩
  | .tup [k, d] :: r, vs, ps, h, e => by
    simp only [pairsD] at e
    simp only [RepVs, RepV] at h
    obtain ⟨v, q, rfl, ⟨a, ws, rfl, hq, l, v1, r1, rfl, h1, v2, r2, rfl, h2, rfl⟩, h3⟩ := h
    split at e
    · rename_i k' ps' ek ep
      cases e
      obtain ⟨qs, ks, rfl, a1, a2⟩ := pairs_rep h3 ep
      obtain ⟨rfl, hk⟩ := keyD_rep h1 ek
      exact ⟨a :: qs, (k', v2) :: ks, rfl, ⟨v2, ks, rfl, hk, h2, a1⟩, .cons hq a2⟩
    · cases e
  | .non :: _, _, _, _, e => by simp [pairsD] at e
  | .bl _ :: _, _, _, _, e => by simp [pairsD] at e
  | .int _ :: _, _, _, _, e => by simp [pairsD] at e
  | .str _ :: _, _, _, _, e => by simp [pairsD] at e
  | .fzl _ :: _, _, _, _, e => by simp [pairsD] at e
  | .ref _ :: _, _, _, _, e => by simp [pairsD] at e
  | .tup [] :: _, _, _, _, e => by simp [pairsD] at e
  | .tup [_] :: _, _, _, _, e => by simp [pairsD] at e
  | .tup (_ :: _ :: _ :: _) :: _, _, _, _, e => by simp [pairsD] at e
theorem merge_len (ps acc : List (Key × D)) : (mergeD acc ps).length ≤ acc.length + ps.length := by
  induction ps generalizing acc with
  | nil => exact Nat.le_refl _
  | cons p r ih =>
    show (mergeD (dput acc p.1 p.2) r).length ≤ _
    have := ih (dput acc p.1 p.2)
    have := dput_len acc p.1 p.2
    rw [List.length_cons]
    omega
theorem pairs_len : ∀ {xs : List D} {ps : List (Key × D)}, pairsD xs = some ps → ps.length = xs.length
  | [], ps, e => by simp only [pairsD, Option.some.injEq] at e; subst e; rfl
  | .tup [k, d] :: r, ps, e => by
    simp only [pairsD] at e
    split at e
    · rename_i k' ps' ek ep
      cases e
      rw [List.length_cons, List.length_cons, pairs_len ep]
    · cases e
  | .non :: _, _, e => by simp [pairsD] at e
  | .bl _ :: _, _, e => by simp [pairsD] at e
  | .int _ :: _, _, e => by simp [pairsD] at e
  | .str _ :: _, _, e => by simp [pairsD] at e
  | .fzl _ :: _, _, e => by simp [pairsD] at e
  | .ref _ :: _, _, e => by simp [pairsD] at e
  | .tup [] :: _, _, e => by simp [pairsD] at e
  | .tup [_] :: _, _, e => by simp [pairsD] at e
  | .tup (_ :: _ :: _ :: _) :: _, _, e => by simp [pairsD] at e
theorem sort_rep {K : PySem.W.Frag} {as : List Addr} {H : Hp} {ss : List Str} (h : ∀ s ∈ ss, PyData.strOk s = true) : RepVs K as H ((ss.mergeSort leS).map .str) ((ss.mergeSort leS).map V.str) :=
  RepVs.mapStr as H _ fun s hs => h s ((List.mergeSort_perm ss leS).mem_iff.mp hs)
theorem vstr_inj : ∀ {a b : List Str}, a.map V.str = b.map V.str → a = b
  | [], [], _ => rfl
  | [], _ :: _, h => by cases h
  | _ :: _, [], h => by cases h
  | x :: a, y :: b, h => by
    rw [List.map_cons, List.map_cons] at h
    injection h with h1 h2
    injection h1 with h1
    rw [h1, vstr_inj h2]
theorem keys_strs {K : PySem.W.Frag} {as : List Addr} {H : Hp} : ∀ {kvs : List (Key × D)} {ks : List (Key × V)} {ss : List Str}, RepK K as H kvs ks → strsD (kvs.map fun p => dkey p.1) = some ss → ks.map (·.1) = ss.map Sum.inr ∧ ∀ s ∈ ss, PyData.strOk s = true
  | [], _, _, h, e => by
    simp only [RepK] at h
    simp only [List.map_nil, strsD, Option.some.injEq] at e
    subst h e
    exact ⟨rfl, by simp⟩
  | (.inl i, d) :: kvs, _, _, _, e => by simp [dkey, strsD] at e
  | (.inr s, d) :: kvs, _, _, h, e => by
    simp only [List.map_cons, dkey, strsD, Option.map_eq_some_iff] at e
    obtain ⟨ss, e, rfl⟩ := e
    obtain ⟨v, q, rfl, hk, _, h2⟩ := h
    obtain ⟨a1, a2⟩ := keys_strs h2 e
    refine ⟨by rw [List.map_cons, List.map_cons, a1], fun t ht => ?_⟩
    rcases List.mem_cons.mp ht with rfl | ht
    · exact hk
    · exact a2 t ht
theorem keys_ints {K : PySem.W.Frag} {as : List Addr} {H : Hp} : ∀ {kvs : List (Key × D)} {ks : List (Key × V)} {ss : List Int}, RepK K as H kvs ks → intsD (kvs.map fun p => dkey p.1) = some ss → ks.map (·.1) = ss.map Sum.inl
  | [], _, _, h, e => by
    simp only [RepK] at h
    simp only [List.map_nil, intsD, Option.some.injEq] at e
    subst h e
    rfl
  | (.inr i, d) :: kvs, _, _, _, e => by simp [dkey, intsD] at e
  | (.inl s, d) :: kvs, _, _, h, e => by
    simp only [List.map_cons, dkey, intsD, Option.map_eq_some_iff] at e
    obtain ⟨ss, e, rfl⟩ := e
    obtain ⟨v, q, rfl, hk, _, h2⟩ := h
    rw [List.map_cons, List.map_cons, keys_ints h2 e]
theorem ints_len : ∀ {ds : List D} {ns : List Int}, intsD ds = some ns → ns.length = ds.length
  | [], _, e => by simp [intsD] at e; subst e; rfl
  | .int i :: ds, _, e => by
    simp only [intsD, Option.map_eq_some_iff] at e
    obtain ⟨ms, e1, rfl⟩ := e
    rw [List.length_cons, List.length_cons, ints_len e1]
  | .non :: _, _, e => by simp [intsD] at e
  | .bl _ :: _, _, e => by simp [intsD] at e
  | .str _ :: _, _, e => by simp [intsD] at e
  | .tup _ :: _, _, e => by simp [intsD] at e
  | .fzl _ :: _, _, e => by simp [intsD] at e
  | .ref _ :: _, _, e => by simp [intsD] at e
theorem strs_len : ∀ {ds : List D} {ns : List Str}, strsD ds = some ns → ns.length = ds.length
  | [], _, e => by simp [strsD] at e; subst e; rfl
  | .str i :: ds, _, e => by
    simp only [strsD, Option.map_eq_some_iff] at e
    obtain ⟨ms, e1, rfl⟩ := e
    rw [List.length_cons, List.length_cons, strs_len e1]
  | .non :: _, _, e => by simp [strsD] at e
  | .bl _ :: _, _, e => by simp [strsD] at e
  | .int _ :: _, _, e => by simp [strsD] at e
  | .tup _ :: _, _, e => by simp [strsD] at e
  | .fzl _ :: _, _, e => by simp [strsD] at e
  | .ref _ :: _, _, e => by simp [strsD] at e
theorem len_le {a b : Nat} (h : a = b) (g : b ≤ sizeLine) : a ≤ sizeLine := h ▸ g
theorem bi_sorted (hc : X.calm = true) : CallR X (.builtin "sorted") (rDn X.K (bi .sorted)) := by
  intro pins s σ H xs us Q I r h
  obtain ⟨EX, as, S, ds, rel, hx, h⟩ := h
  have hds : ∃ rr, ds = [.ref rr] := by
    unfold bi at h
    split at h
    all_goals (try (rename_i z ; cases z))
    all_goals first | exact h.elim | exact ⟨_, rfl⟩ | skip
  obtain ⟨rr, rfl⟩ := hds
  simp only [bi] at h
  obtain ⟨x, rfl, hx1⟩ := repVs1 hx
  simp only [RepV] at hx1
  obtain ⟨a, rfl, ha⟩ := hx1
  split at h
  · rename_i xs0 e0
    simp only [seqD] at e0
    split at h
    · rename_i ys ey
      split at h
      · rename_i h64
        unfold sortD at ey
        cases hS : S[rr]? with
        | none => rw [hS] at e0; cases e0
        | some c =>
          rw [hS] at e0
          cases c with
          | lst ds0 =>
            cases e0
            obtain ⟨vs, z1, l, t⟩ := rel.cell _ _ _ hS ha
            split at ey
            · rename_i ss es
              cases ey
              have hv := t.strs es
              subst hv
              refine cr_sortedS pins s σ H _ us Q I r ⟨a, ss, rfl, SqL.of z1, by rw [strs_len es]; exact h64, fun zs p hp hs hn => ?_⟩
              rw [sorted_eq hs hp]
              exact Post.lst h rel hn (len_le (by rw [List.length_map, List.length_mergeSort, strs_len es]) l) (sort_rep (t.strsOk es))
            · split at ey
              · rename_i is es
                cases ey
                have hv := t.ints es
                subst hv
                refine cr_sorted pins s σ H _ us Q I r ⟨a, is, rfl, SqL.of z1, by rw [ints_len es]; exact h64, fun zs p hp hs hn => ?_⟩
                rw [sortedI_eq hs hp]
                exact Post.lst h rel hn (len_le (by rw [List.length_map, List.length_mergeSort, ints_len es]) l) (RepVs.mapInt as H _)
              · cases ey
          | dic lk kvs =>
            cases e0
            have go : ∀ ks, Rd H a (.dK ks) → RepK X.K as H kvs ks → kvs.length ≤ sizeLine → wpAny (model X.prog X.w) X.A (PySem.call (.builtin "sorted") us) (EP X pins σ Q) X.xe s := fun ks hr hk' l => by
              split at ey
              · rename_i ss es
                cases ey
                obtain ⟨a1, a2⟩ := keys_strs hk' es
                have hl := strs_len es
                rw [List.length_map] at hl
                rw [List.length_map] at h64
                refine call_sortedD hc pins s σ H _ us Q I r ⟨a, ks, ss, rfl, hr, a1, by omega, fun zs p hp hs hn => ?_⟩
                rw [sorted_eq hs hp]
                exact Post.lst h rel hn (len_le (by rw [List.length_map, List.length_mergeSort, hl]) l) (sort_rep a2)
              · split at ey
                · rename_i is es
                  cases ey
                  have a1 := keys_ints hk' es
                  have hl := ints_len es
                  rw [List.length_map] at hl
                  rw [List.length_map] at h64
                  refine call_sortedDI hc pins s σ H _ us Q I r ⟨a, ks, is, rfl, hr, a1, by omega, fun zs p hp hs hn => ?_⟩
                  rw [sortedI_eq hs hp]
                  exact Post.lst h rel hn (len_le (by rw [List.length_map, List.length_mergeSort, hl]) l) (RepVs.mapInt as H _)
                · cases ey
            cases lk with
            | false => obtain ⟨ks, z1, l, t⟩ := rel.cell _ _ _ hS ha; exact go ks (.inl z1) t l
            | true => obtain ⟨o, ks, z1, l, t⟩ := rel.cell _ _ _ hS ha; exact go ks (.inr ⟨o, z1⟩) t l
          | ins _ _ => cases e0
      · exact h.elim
    · exact h.elim
  · exact h.elim
end
end Pv
set_option Elab.async false
set_option linter.all false
set_option maxRecDepth 100000
set_option maxHeartbeats 1000000
namespace Pv
open PySem PySem.Spec PyProof.Rows L2
section
variable {X : Cx}
theorem notWide {X : Cx} {f : Value} {K : PySem.W.Frag} {m : List D → Store → R D} : (∀ ds S, m ds S = .no) → CallR X f (rDn K m) := fun z => by
  intro pins s σ H xs us Q I r h
  obtain ⟨EX, as, S, ds, rel, hx, h⟩ := h
  rw [z] at h
  exact h.elim
theorem bi_len : CallR X (.builtin "len") (rDn X.K (bi .len)) := by
  intro pins s σ H xs us Q I r h
  obtain ⟨EX, as, S, ds, rel, hx, h⟩ := h
  match ds, h, hx with
  | [], h, _ => simp [bi] at h; exact h.elim
  | _ :: _ :: _, h, _ => simp [bi] at h; exact h.elim
  | [d], h, hx =>
    obtain ⟨x, rfl, hx1⟩ := repVs1 hx
    have gen : ∀ xs0, seqD d S = some xs0 → Post X.K EX as H (.ok (.int xs0.length) S : R D) (VQ X.K Q) → wpAny (model X.prog X.w) X.A (PySem.call (.builtin "len") us) (EP X pins σ Q) X.xe s := fun xs0 e0 h => by
      obtain ⟨vs, hs, t, l⟩ := seqD_sq rel hx1 e0
      have hq : Q (.int vs.length) H := by
        rw [t.length]
        exact h.here rel _ (by simp only [RepV])
      cases hs with
      | l z => exact call_len_seq pins s σ H _ us Q I r ⟨_, vs, rfl, .inl z, hq⟩
      | t z => exact call_len_seq pins s σ H _ us Q I r ⟨_, vs, rfl, .inr z, hq⟩
      | d z =>
        obtain ⟨u, rfl, ru⟩ := vals1 r
        cases ru
        rw [List.length_map] at hq
        exact d_len I z fun t s' I' => ⟨V.int _, H, I', ⟨t, rfl⟩, hq⟩
    cases d with
    | str z =>
      simp only [bi] at h
      split at h
      · rename_i hl
        simp only [RepV] at hx1
        exact call_len_str pins s σ H _ us Q I r ⟨z, by rw [hx1.1], hl, h.here rel _ (by simp only [RepV])⟩
      · exact h.elim
    | non => simp [bi, seqD] at h; exact h.elim
    | bl _ => simp [bi, seqD] at h; exact h.elim
    | int _ => simp [bi, seqD] at h; exact h.elim
    | tup xs0 => simp only [bi, seqD] at h; exact gen xs0 (by simp only [seqD]) h
    | fzl xs0 => simp only [bi, seqD] at h; exact gen xs0 (by simp only [seqD]) h
    | ref i =>
      simp only [bi] at h
      split at h
      · rename_i xs0 e0
        exact gen xs0 e0 h
      · exact h.elim
theorem bi_abs : CallR X (.builtin "abs") (rDn X.K (bi .abs)) := by
  intro pins s σ H xs us Q I r h
  obtain ⟨EX, as, S, ds, rel, hx, h⟩ := h
  have hds : ∃ i, ds = [.int i] := by
    unfold bi at h
    split at h
    all_goals (try (rename_i z ; cases z))
    all_goals first | exact h.elim | exact ⟨_, rfl⟩
  obtain ⟨i, rfl⟩ := hds
  obtain ⟨x, rfl, hx1⟩ := repVs1 hx
  simp only [RepV] at hx1
  subst hx1
  simp only [bi] at h
  exact call_abs pins s σ H _ us Q I r ⟨i, rfl, h.here rel _ (by simp only [RepV])⟩
theorem bi_all (hc : X.calm = true) : CallR X (.builtin "all") (rDn X.K (bi .all)) := by
  intro pins s σ H xs us Q I r h
  obtain ⟨EX, as, S, ds, rel, hx, h⟩ := h
  have hds : ∃ i, ds = [.ref i] := by
    unfold bi at h
    split at h
    all_goals (try (rename_i z ; cases z))
    all_goals first | exact h.elim | exact ⟨_, rfl⟩
  obtain ⟨i, rfl⟩ := hds
  obtain ⟨x, rfl, hx1⟩ := repVs1 hx
  simp only [RepV] at hx1
  obtain ⟨a, rfl, ha⟩ := hx1
  simp only [bi] at h
  split at h
  · rename_i e
    obtain ⟨vs, z1, l, t⟩ := rel.cell _ _ _ e ha
    split at h
    · rename_i bs eb
      have hv := t.bls eb
      subst hv
      exact cr_all hc pins s σ H _ us Q I r ⟨a, bs, rfl, SqL.of z1, h.here rel _ (by simp only [RepV])⟩
    · exact h.elim
  · exact h.elim
theorem bi_sum (hc : X.calm = true) : CallR X (.builtin "sum") (rDn X.K (bi .sum)) := by
  intro pins s σ H xs us Q I r h
  obtain ⟨EX, as, S, ds, rel, hx, h⟩ := h
  have hds : ∃ i, ds = [.ref i] := by
    unfold bi at h
    split at h
    all_goals (try (rename_i z ; cases z))
    all_goals first | exact h.elim | exact ⟨_, rfl⟩
  obtain ⟨i, rfl⟩ := hds
  obtain ⟨x, rfl, hx1⟩ := repVs1 hx
  simp only [RepV] at hx1
  obtain ⟨a, rfl, ha⟩ := hx1
  simp only [bi] at h
  split at h
  · rename_i e
    obtain ⟨vs, z1, l, t⟩ := rel.cell _ _ _ e ha
    split at h
    · rename_i bs eb
      have hv := t.ints eb
      subst hv
      exact cr_sum hc pins s σ H _ us Q I r ⟨a, bs, rfl, SqL.of z1, h.here rel _ (by simp only [RepV])⟩
    · exact h.elim
  · exact h.elim
theorem bi_min2 (hc : X.calm = true) : CallR X (.builtin "min") (rDn X.K (bi .min2)) := by
  intro pins s σ H xs us Q I r h
  obtain ⟨EX, as, S, ds, rel, hx, h⟩ := h
  have hds : ∃ i j, ds = [.int i, .int j] := by
    unfold bi at h
    split at h
    all_goals (try (rename_i z ; cases z))
    all_goals first | exact h.elim | exact ⟨_, _, rfl⟩
  obtain ⟨i, j, rfl⟩ := hds
  obtain ⟨x, y, rfl, hx1, hx2⟩ := repVs2 hx
  simp only [RepV] at hx1 hx2
  subst hx1 hx2
  simp only [bi] at h
  exact call_min2 hc pins s σ H _ us Q I r ⟨i, j, rfl, h.here rel _ (by simp only [RepV])⟩
theorem bi_max2 (hc : X.calm = true) : CallR X (.builtin "max") (rDn X.K (bi .max2)) := by
  intro pins s σ H xs us Q I r h
  obtain ⟨EX, as, S, ds, rel, hx, h⟩ := h
  have hds : ∃ i j, ds = [.int i, .int j] := by
    unfold bi at h
    split at h
    all_goals (try (rename_i z ; cases z))
    all_goals first | exact h.elim | exact ⟨_, _, rfl⟩
  obtain ⟨i, j, rfl⟩ := hds
  obtain ⟨x, y, rfl, hx1, hx2⟩ := repVs2 hx
  simp only [RepV] at hx1 hx2
  subst hx1 hx2
  simp only [bi] at h
  exact call_max2 hc pins s σ H _ us Q I r ⟨i, j, rfl, h.here rel _ (by simp only [RepV])⟩
theorem bi_list (hc : X.calm = true) : CallR X (.type "list") (rDn X.K (bi .list)) := by
  intro pins s σ H xs us Q I r h
  obtain ⟨EX, as, S, ds, rel, hx, h⟩ := h
  have hds : ∃ d, ds = [d] := by
    unfold bi at h
    split at h
    all_goals (try (rename_i z ; cases z))
    all_goals first | exact h.elim | exact ⟨_, rfl⟩
  obtain ⟨d, rfl⟩ := hds
  obtain ⟨x, rfl, hx1⟩ := repVs1 hx
  by_cases hz : ∃ z, d = .str z
  · obtain ⟨z, rfl⟩ := hz
    simp only [bi] at h
    split at h
    case isFalse => exact h.elim
    rename_i hzl
    simp only [RepV] at hx1
    obtain ⟨rfl, hok⟩ := hx1
    obtain ⟨u, rfl, tk, rfl⟩ := vals1 r
    refine call_list_str (I.ok.hd hc) z tk (fun h' tk' acc' c' hk hS' hacc => ?_) hzl
    have hv : Vals ((z.cps.toList.map fun c => V.str ⟨#[c]⟩)) acc'.toList := by
      refine vals_of_at (by rw [List.length_map]; simpa using hacc.1.symm) fun j x u hx hu => ?_
      rw [List.getElem?_map, Option.map_eq_some_iff] at hx
      obtain ⟨c, hc1, rfl⟩ := hx
      obtain ⟨c2, u2, e1, e2⟩ := hacc.2 j u (by simpa using hu)
      have ec : c2 = c := by
        rw [Array.getElem?_toList] at hc1
        rw [hc1] at e1
        exact (Option.some.inj e1).symm
      subst ec
      exact ⟨u2, e2⟩
    refine ⟨.ref s.heap.objs.size, _, I.laid (t' := tk') (o := .lst (z.cps.toList.map fun c => V.str ⟨#[c]⟩)) hk (Nat.le_refl _) ⟨by rw [List.length_map]; simpa [Str.length] using hzl, acc'.toList, c', hv, by simpa using hS'⟩, rfl, ?_⟩
    refine Post.lst h rel (I.hok.fresh (Nat.le_refl _)) (by rw [List.length_map]; simpa [Str.length] using hzl) ?_
    have gen : ∀ l : List Nat, (∀ c ∈ l, c ∈ z.cps.toList) → RepVs X.K as H (l.map sign) (l.map fun c => V.str ⟨#[c]⟩) := by
      intro l
      induction l with
      | nil => intro _; simp [RepVs]
      | cons c l ih =>
        intro hl
        rw [List.map_cons, List.map_cons]
        simp only [RepVs]
        refine ⟨_, _, rfl, ?_, ih fun d hd => hl d (by simp [hd])⟩
        simp only [sign, RepV]
        exact ⟨trivial, strOk_sub hok fun d hd => by simp at hd; subst hd; exact hl d (by simp)⟩
    exact gen _ fun c hc => hc
  · have e : bi .list [d] S = (match seqD d S with | some xs => alloc (.lst xs) S | none => .no) := by
      cases d <;> first | rfl | exact absurd ⟨_, rfl⟩ hz
    rw [e] at h
    split at h
    · rename_i xs0 e0
      obtain ⟨vs, hs, t, l⟩ := seqD_sq rel hx1 e0
      cases hs with
      | l z => exact call_list_of pins s σ H _ us Q I r ⟨_, vs, rfl, .inl z, fun p hp => Post.lst h rel hp l t⟩
      | t z => exact call_list_of pins s σ H _ us Q I r ⟨_, vs, rfl, .inr z, fun p hp => Post.lst h rel hp l t⟩
      | d z => exact call_listD hc pins s σ H _ us Q I r ⟨_, _, rfl, z, fun p hp => Post.lst h rel hp l t⟩
    · exact h.elim
theorem bi_tuple : CallR X (.type "tuple") (rDn X.K (bi .tuple)) := by
  intro pins s σ H xs us Q I r h
  obtain ⟨EX, as, S, ds, rel, hx, h⟩ := h
  have hds : ∃ d, ds = [d] ∧ ((∃ xs, d = .tup xs) ∨ (∃ xs, d = .fzl xs) ∨ ∃ i, d = .ref i) := by
    unfold bi at h
    split at h
    all_goals (try (rename_i z ; cases z))
    all_goals first | exact h.elim | exact ⟨_, rfl, .inl ⟨_, rfl⟩⟩ | exact ⟨_, rfl, .inr (.inl ⟨_, rfl⟩)⟩ | exact ⟨_, rfl, .inr (.inr ⟨_, rfl⟩)⟩
  obtain ⟨d, rfl, hd⟩ := hds
  obtain ⟨x, rfl, hx1⟩ := repVs1 hx
  rcases hd with ⟨xs, rfl⟩ | ⟨xs, rfl⟩ | ⟨i, rfl⟩
  · simp only [bi] at h
    have hx2 := hx1
    simp only [RepV] at hx1
    obtain ⟨a, vs, rfl, hq, l, t⟩ := hx1
    exact call_tuple_of pins s σ H _ us Q I r ⟨a, vs, rfl, .inr ⟨hq, h.here rel _ hx2⟩⟩
  · simp only [bi] at h
    simp only [RepV] at hx1
    obtain ⟨a, vs, rfl, hq, l, t⟩ := hx1
    exact call_tuple_of pins s σ H _ us Q I r ⟨a, vs, rfl, .inl ⟨FzL.sq _ hq, fun p hp => Post.tup h rel hp l t⟩⟩
  · simp only [bi] at h
    simp only [RepV] at hx1
    obtain ⟨a, rfl, ha⟩ := hx1
    split at h
    · rename_i e
      obtain ⟨vs, z1, l, t⟩ := rel.cell _ _ _ e ha
      exact call_tuple_of pins s σ H _ us Q I r ⟨a, vs, rfl, .inl ⟨SqL.of z1, fun p hp => Post.tup h rel hp l t⟩⟩
    · exact h.elim
theorem bi_dict (hc : X.calm = true) : CallR X (.type "dict") (rDn X.K (bi .dict)) := by
  intro pins s σ H xs us Q I r h
  obtain ⟨EX, as, S, ds, rel, hx, h⟩ := h
  have hds : ∃ i, ds = [.ref i] := by
    unfold bi at h
    split at h
    all_goals (try (rename_i z ; cases z))
    all_goals first | exact h.elim | exact ⟨_, rfl⟩
  obtain ⟨i, rfl⟩ := hds
  obtain ⟨x, rfl, hx1⟩ := repVs1 hx
  simp only [RepV] at hx1
  obtain ⟨a, rfl, ha⟩ := hx1
  simp only [bi] at h
  split at h
  · rename_i e
    obtain ⟨vs, z1, l, t⟩ := rel.cell _ _ _ e ha
    split at h
    · rename_i ps ep
      obtain ⟨qs, ks, rfl, a1, a2⟩ := pairs_rep t ep
      refine call_dictP hc pins s σ H _ us Q I r ⟨a, qs, ks, rfl, SqL.of z1, a2, fun p hp => Post.dic h rel hp ?_ (RepK.merge ps a1 rfl)⟩
      have := merge_len ps []
      have := pairs_len ep
      simp at *
      omega
    · exact h.elim
  · rename_i lk kvs e
    cases lk with
    | false => obtain ⟨ks, z1, l, t⟩ := rel.cell _ _ _ e ha; exact call_dictD pins s σ H _ us Q I r ⟨a, ks, rfl, .inl z1, fun p hp => Post.dic h rel hp l t⟩
    | true => obtain ⟨o, ks, z1, l, t⟩ := rel.cell _ _ _ e ha; exact call_dictD pins s σ H _ us Q I r ⟨a, ks, rfl, .inr ⟨o, z1⟩, fun p hp => Post.dic h rel hp l t⟩
  · exact h.elim
theorem bi_int : CallR X (.type "int") (rDn X.K (bi .int)) := by
  intro pins s σ H xs us Q I r h
  obtain ⟨EX, as, S, ds, rel, hx, h⟩ := h
  have hds : (∃ i, ds = [.int i]) ∨ ∃ b, ds = [.bl b] := by
    unfold bi at h
    split at h
    all_goals (try (rename_i z ; cases z))
    all_goals first | exact h.elim | exact .inl ⟨_, rfl⟩ | exact .inr ⟨_, rfl⟩
  rcases hds with ⟨i, rfl⟩ | ⟨b, rfl⟩
  · obtain ⟨x, rfl, hx1⟩ := repVs1 hx
    simp only [RepV] at hx1
    subst hx1
    simp only [bi] at h
    exact call_int1 pins s σ H _ us Q I r (.inl ⟨i, rfl, h.here rel _ (by simp only [RepV])⟩)
  · obtain ⟨x, rfl, hx1⟩ := repVs1 hx
    simp only [RepV] at hx1
    subst hx1
    simp only [bi] at h
    exact call_int1 pins s σ H _ us Q I r (.inr ⟨b, rfl, h.here rel _ (by simp only [RepV])⟩)
theorem bi_repr (hgd : X.A.guards = some []) (hu : X.A.units + 65 < cLine) : CallR X (.builtin "repr") (rDn X.K (bi .repr)) := by
  intro pins s σ H xs us Q I r h
  obtain ⟨EX, as, S, ds, rel, hx, h⟩ := h
  match ds, h, hx with
  | [], h, _ => simp [bi] at h; exact h.elim
  | _ :: _ :: _, h, _ => simp [bi] at h; exact h.elim
  | [d], h, hx =>
    simp only [bi] at h
    obtain ⟨v, rfl, hv⟩ := repVs1 hx
    split at h
    case h_2 => exact h.elim
    rename_i p hp
    split at h
    case isFalse => exact h.elim
    rename_i hc
    obtain ⟨c1, c2, c3⟩ := hc
    obtain ⟨d1, d2, d3⟩ := repV_lst rel 60 d p v hp hv
    have fin : Q (.str p.shown) H := h.here rel _ (by simp only [RepV]; exact ⟨trivial, c3⟩)
    obtain ⟨u, rfl, ru⟩ := vals1 r
    obtain ⟨bs, rd⟩ := Dp.reads I p v u d1 ru
    have nd : p.hasDict = true → sysModules ∉ bs := PyData.noDict_hsm (PyData.hasDict_of_canLay p d2)
    cases rd with
    | none => exact PySem.P.repr_of_none ⟨.str _, H, I.tok _, ⟨_, rfl⟩, by simpa only [PyData.shown] using fin⟩
    | bool b => exact PySem.P.repr_of_bool ⟨.str _, H, I.tok _, ⟨_, rfl⟩, by simpa only [PyData.shown] using fin⟩
    | int i t => exact PySem.P.repr_of_int (by simpa [PyData.showable] using c1) ⟨.str _, H, I.tok _, ⟨_, rfl⟩, by simpa only [PyData.shown] using fin⟩
    | str x t => exact PySem.P.repr_of_str ⟨.str _, H, I.tok _, ⟨_, rfl⟩, by simpa only [PyData.shown] using fin⟩ (by simpa only [PyData.shown] using c2)
    | list h1 h2 h3 h4 => exact repr_of_reads' (.list h1 h2 h3 h4) c1 nd hgd (by omega) (fun _ _ e => e) (fun h' u tk hk => ⟨.str _, H, I.kept hk, ⟨_, rfl⟩, fin⟩) c2
    | tuple h1 h2 h3 h4 => exact repr_of_reads' (.tuple h1 h2 h3 h4) c1 nd hgd (by omega) (fun _ _ e => e) (fun h' u tk hk => ⟨.str _, H, I.kept hk, ⟨_, rfl⟩, fin⟩) c2
    | dict h1 h2 h3 h4 h5 => exact repr_of_reads' (.dict h1 h2 h3 h4 h5) c1 nd hgd (by omega) (fun _ _ e => e) (fun h' u tk hk => ⟨.str _, H, I.kept hk, ⟨_, rfl⟩, fin⟩) c2
theorem bi_ok (hc : X.calm = true) (hgd : X.A.guards = some []) (hu : X.A.units + 65 < cLine) (f : B) : CallR X (bval f) (rDn X.K (bi f)) := by
  cases f with
  | len => exact bi_len
  | abs => exact bi_abs
  | all => exact bi_all hc
  | sum => exact bi_sum hc
  | min1 => exact notWide fun ds S => by unfold bi; split <;> first | rfl | (rename_i z; cases z)
  | max1 => exact notWide fun ds S => by unfold bi; split <;> first | rfl | (rename_i z; cases z)
  | min2 => exact bi_min2 hc
  | max2 => exact bi_max2 hc
  | list => exact bi_list hc
  | tuple => exact bi_tuple
  | dict => exact bi_dict hc
  | int => exact bi_int
  | str => exact notWide fun ds S => by unfold bi; split <;> first | rfl | (rename_i z; cases z)
  | repr => exact bi_repr hgd hu
  | sorted => exact bi_sorted hc
end
end Pv
set_option Elab.async false
set_option linter.all false
set_option maxRecDepth 100000
set_option maxHeartbeats 1000000
namespace Pv
open TL
open PySem PySem.Spec PyProof.Rows L2
theorem repVs_dropLast {K : PySem.W.Frag} {as : List Addr} {H : Hp} {ds : List D} {vs : List V} (t : RepVs K as H ds vs) : RepVs K as H ds.dropLast vs.dropLast := by
  rw [List.dropLast_eq_take, List.dropLast_eq_take, t.length]
  exact t.take _
theorem joinL_mem {S : List Nat} {c : Nat} : ∀ {ps : List (List Nat)}, c ∈ joinL S ps → c ∈ S ∨ ∃ p ∈ ps, c ∈ p
  | [], h => by simp [joinL] at h
  | [p], h => .inr ⟨p, by simp, h⟩
  | p :: q :: r, h => by
    simp only [joinL, List.mem_append] at h
    rcases h with h | h | h
    · exact .inr ⟨p, by simp, h⟩
    · exact .inl h
    · rcases joinL_mem h with h | ⟨x, hx, h⟩
      · exact .inl h
      · exact .inr ⟨x, by simp [hx], h⟩
section
variable {X : Cx}
/-- what a method's call leaves: by what it is asked of -/
theorem mi_append : MtR X "list.append" (rDm X.K (mi .append)) := by
  intro pins s σ H x xs v us Q I rx r h
  obtain ⟨EX, as, S, dx, ds, rel, hx, hxs, h⟩ := h
  have hds : ∃ i d, dx = .ref i ∧ ds = [d] := by
    unfold mi at h
    split at h
    all_goals (try (rename_i z ; cases z))
    all_goals first | exact h.elim | exact ⟨_, _, rfl, rfl⟩
  obtain ⟨i, d, rfl, rfl⟩ := hds
  obtain ⟨y, rfl, hy⟩ := repVs1 hxs
  simp only [RepV] at hx
  obtain ⟨a, rfl, ha⟩ := hx
  simp only [mi] at h
  split at h
  · rename_i e
    split at h
    · rename_i hl
      obtain ⟨vs, z1, l, t⟩ := rel.cell _ _ _ e ha
      have ht := t.length
      refine mt_append pins s σ H _ _ v us Q I rx r ⟨a, vs, y, rfl, rfl, z1, by omega, ?_⟩
      exact Post.set h rel ha (fun x => ⟨_, upd_same, by rw [List.length_append]; exact hl, (x.repVs rel _ _ t).append (RepVs.one (x.repV rel _ _ hy))⟩) _ (by simp only [RepV])
    · exact h.elim
  · exact h.elim
theorem mi_extend : MtR X "list.extend" (rDm X.K (mi .extend)) := by
  intro pins s σ H x xs v us Q I rx r h
  obtain ⟨EX, as, S, dx, ds, rel, hx, hxs, h⟩ := h
  have hds : ∃ i j, dx = .ref i ∧ ds = [.ref j] := by
    unfold mi at h
    split at h
    all_goals (try (rename_i z ; cases z))
    all_goals first | exact h.elim | exact ⟨_, _, rfl, rfl⟩
  obtain ⟨i, j, rfl, rfl⟩ := hds
  obtain ⟨y, rfl, hy⟩ := repVs1 hxs
  simp only [RepV] at hx hy
  obtain ⟨a, rfl, ha⟩ := hx
  obtain ⟨b, rfl, hb⟩ := hy
  simp only [mi] at h
  split at h
  · rename_i e1 e2
    split at h
    · rename_i hl
      obtain ⟨vs, z1, l, t⟩ := rel.cell _ _ _ e1 ha
      obtain ⟨ws, z2, l2, t2⟩ := rel.cell _ _ _ e2 hb
      have ht := t.length
      have ht2 := t2.length
      refine mt_extend pins s σ H _ _ v us Q I rx r ⟨a, b, vs, ws, rfl, rfl, z1, z2, by omega, ?_⟩
      exact Post.set h rel ha (fun x => ⟨_, upd_same, by rw [List.length_append]; exact hl.1, (x.repVs rel _ _ t).append (x.repVs rel _ _ t2)⟩) _ (by simp only [RepV])
    · exact h.elim
  · exact h.elim
/-- .index of a text -/
def mStr (m : M) : D → List D → Store → R D := fun x ds S => match x with
  | .str _ => mi m x ds S
  | _ => .no
def mRef (m : M) (P : Cell → Bool) : D → List D → Store → R D := fun x ds S => match x with
  | .ref r => (match S[r]? with
    | some c => if P c = true then mi m x ds S else .no
    | none => .no)
  | _ => .no
def isLst : Cell → Bool
  | .lst _ => true
  | _ => false
def isDic : Cell → Bool
  | .dic _ _ => true
  | _ => false
theorem mi_sindex : MtR X "str.index" (rDm X.K (mStr .index)) := by
  intro pins s σ H x xs v us Q I rx r h
  obtain ⟨EX, as, S, dx, ds, rel, hx, hxs, h⟩ := h
  have hds : ∃ i j, dx = .str i ∧ ds = [.str j] := by
    unfold mStr at h
    split at h
    · unfold mi at h
      split at h
      all_goals (try (rename_i z1 z2 ; cases z1))
      all_goals (try (rename_i z2 ; cases z2))
      all_goals first | exact h.elim | exact ⟨_, _, rfl, rfl⟩ | skip
      all_goals (rename_i z; cases z)
    · exact h.elim
  obtain ⟨i, j, rfl, rfl⟩ := hds
  obtain ⟨y, rfl, hy⟩ := repVs1 hxs
  simp only [RepV] at hx hy
  simp only [mStr, mi] at h
  split at h
  · rename_i k rest e
    exact mt_sindex pins s σ H _ _ v us Q I rx r ⟨i, j, k, rest, hx.1, by rw [hy.1], e, h.here rel _ (by simp only [RepV])⟩
  · exact h.elim
theorem mi_lindex (hu : X.A.units + 65 < cLine) : MtR X "list.index" (rDm X.K (mRef .index isLst)) := by
  intro pins s σ H x xs v us Q I rx r h
  obtain ⟨EX, as, S, dx, ds, rel, hx, hxs, h⟩ := h
  unfold mRef at h
  split at h
  · rename_i i
    split at h
    · rename_i c e
      split at h
      · rename_i hc
        cases c with
        | lst ys =>
          match ds, h, hxs with
          | [], h, _ => simp [mi] at h; exact h.elim
          | _ :: _ :: _, h, _ => simp [mi] at h; exact h.elim
          | [d], h, hxs =>
            obtain ⟨y, rfl, hy⟩ := repVs1 hxs
            simp only [RepV] at hx
            obtain ⟨a, rfl, ha⟩ := hx
            simp only [mi, e] at h
            obtain ⟨vs, z1, l, t⟩ := rel.cell _ _ _ e ha
            split at h
            · rename_i p ps e1 e2
              split at h
              · rename_i j ej
                obtain ⟨a1, a2, a3⟩ := repV_lst rel _ _ _ _ e1 hy
                obtain ⟨b1, b2, b3⟩ := repVs_lst rel _ _ _ _ e2 t
                rw [List.findIdx?_eq_some_iff_getElem] at ej
                obtain ⟨hj, q1, q2⟩ := ej
                refine mt_indexD hu pins s σ H _ _ v us Q I rx r ⟨a, y, p, ps, j, ps[j], rfl, rfl, .lst (SqL.of z1) b1, a1, shaped_of (n := 60) (by simpa [PyData.canLay0] using b2) (by simp only [PyData.depth]; omega) (by decide), shaped_of a2 a3 (by decide),
                  List.getElem?_eq_getElem hj, q1, fun m z' hm hz => ?_, h.here rel _ (by simp only [RepV])⟩
                obtain ⟨hm', rfl⟩ := List.getElem?_eq_some_iff.mp hz
                have := q2 m hm
                simpa using this
              · exact h.elim
            · exact h.elim
        | dic _ _ => cases hc
        | ins _ _ => cases hc
      · exact h.elim
    · exact h.elim
  · exact h.elim
theorem mi_upper : MtR X "str.upper" (rDm X.K (mi .upper)) := by
  intro pins s σ H x xs v us Q I rx r h
  obtain ⟨EX, as, S, dx, ds, rel, hx, hxs, h⟩ := h
  have hds : ∃ i, dx = .str i ∧ ds = [] := by
    unfold mi at h
    split at h
    all_goals (try (rename_i z ; cases z))
    all_goals first | exact h.elim | exact ⟨_, rfl, rfl⟩
  obtain ⟨i, rfl, rfl⟩ := hds
  simp only [RepVs] at hxs
  subst hxs
  simp only [RepV] at hx
  simp only [mi] at h
  split at h
  · rename_i hl
    exact mt_upper pins s σ H _ _ v us Q I rx r ⟨i, hx.1, rfl, hl.1, h.here rel _ (by simp only [RepV]; exact ⟨trivial, hl.2⟩)⟩
  · exact h.elim
theorem dic_at {as : List Addr} {H : Hp} {S : Store} (rel : RelS X.K as H S) {i : Nat} {a : Addr} {lk : Bool} {kvs : List (Key × D)} (e : S[i]? = some (.dic lk kvs)) (ha : as[i]? = some a) : ∃ ks, Rd H a (.dK ks) ∧ RepK X.K as H kvs ks ∧ kvs.length ≤ sizeLine ∧ (lk = false → H a = some (.dK ks)) := by
  cases lk with
  | false => obtain ⟨ks, z1, l, t⟩ := rel.cell _ _ _ e ha; exact ⟨ks, .inl z1, t, l, fun _ => z1⟩
  | true => obtain ⟨o, ks, z1, l, t⟩ := rel.cell _ _ _ e ha; exact ⟨ks, .inr ⟨o, z1⟩, t, l, fun z => by cases z⟩
theorem mi_get1 (hu : X.A.units + 65 < cLine) : MtR X "dict.get" (rDm X.K (mi .get1)) := by
  intro pins s σ H x xs v us Q I rx r h
  obtain ⟨EX, as, S, dx, ds, rel, hx, hxs, h⟩ := h
  have hds : ∃ i d, dx = .ref i ∧ ds = [d] := by
    unfold mi at h
    split at h
    all_goals (try (rename_i z ; cases z))
    all_goals first | exact h.elim | exact ⟨_, _, rfl, rfl⟩
  obtain ⟨i, d, rfl, rfl⟩ := hds
  obtain ⟨y, rfl, hy⟩ := repVs1 hxs
  simp only [RepV] at hx
  obtain ⟨a, rfl, ha⟩ := hx
  simp only [mi] at h
  split at h
  · rename_i kvs e
    split at h
    · rename_i k ek
      obtain ⟨rfl, hk⟩ := keyD_rep hy ek
      obtain ⟨ks, hr, hk', l, _⟩ := dic_at rel e ha
      obtain ⟨u, rfl, ru⟩ := vals1 r
      obtain rfl : v = Value.ref a := rx
      refine d_get1 (o := valV ks k) (by omega) I (.inl ⟨ks, k, hr, rfl, rfl⟩) ru fun w' s' I' r' => ⟨_, H, I', r', ?_⟩
      rcases hk'.val k with ⟨e1, e2⟩ | ⟨d', w, e1, e2, r1⟩
      · rw [e2]; rw [e1] at h; exact h.here rel _ (by simp only [Option.getD_none, RepV])
      · rw [e2]; rw [e1] at h; exact h.here rel _ r1
    · exact h.elim
  · exact h.elim
theorem mi_get2 (hu : X.A.units + 65 < cLine) : MtR X "dict.get" (rDm X.K (mi .get2)) := by
  intro pins s σ H x xs v us Q I rx r h
  obtain ⟨EX, as, S, dx, ds, rel, hx, hxs, h⟩ := h
  have hds : ∃ i d e, dx = .ref i ∧ ds = [d, e] := by
    unfold mi at h
    split at h
    all_goals (try (rename_i z ; cases z))
    all_goals first | exact h.elim | exact ⟨_, _, _, rfl, rfl⟩
  obtain ⟨i, d, e, rfl, rfl⟩ := hds
  obtain ⟨y, z, rfl, hy, hz⟩ := repVs2 hxs
  simp only [RepV] at hx
  obtain ⟨a, rfl, ha⟩ := hx
  simp only [mi] at h
  split at h
  · rename_i kvs e
    split at h
    · rename_i k ek
      obtain ⟨rfl, hk⟩ := keyD_rep hy ek
      obtain ⟨ks, hr, hk', l, _⟩ := dic_at rel e ha
      obtain ⟨u, u2, rfl, ru, ru2⟩ := vals2 r
      obtain rfl : v = Value.ref a := rx
      refine d_get2 (o := valV ks k) (d := z) (by omega) I (.inl ⟨ks, k, hr, rfl, rfl⟩) ru ru2 fun w' s' I' r' => ⟨_, H, I', r', ?_⟩
      rcases hk'.val k with ⟨e1, e2⟩ | ⟨d', w, e1, e2, r1⟩
      · rw [e2]; rw [e1] at h; exact h.here rel _ hz
      · rw [e2]; rw [e1] at h; exact h.here rel _ r1
    · exact h.elim
  · exact h.elim
theorem mi_pop0 : MtR X "list.pop" (rDm X.K (mi .pop0)) := by
  intro pins s σ H x xs v us Q I rx r h
  obtain ⟨EX, as, S, dx, ds, rel, hx, hxs, h⟩ := h
  have hds : ∃ i, dx = .ref i ∧ ds = [] := by
    unfold mi at h
    split at h
    all_goals (try (rename_i z ; cases z))
    all_goals first | exact h.elim | exact ⟨_, rfl, rfl⟩
  obtain ⟨i, rfl, rfl⟩ := hds
  simp only [RepVs] at hxs
  subst hxs
  simp only [RepV] at hx
  obtain ⟨a, rfl, ha⟩ := hx
  simp only [mi] at h
  split at h
  · rename_i e
    split at h
    · rename_i d ed
      obtain ⟨vs, z1, l, t⟩ := rel.cell _ _ _ e ha
      obtain ⟨w, ew, rw'⟩ := t.get _ _ ed
      rw [← t.length] at ew
      refine mt_pop pins s σ H _ _ v us Q I rx r ⟨a, vs, w, rfl, rfl, z1, ew, ?_⟩
      refine Post.set h rel ha (fun x => ⟨_, upd_same, by rw [List.length_dropLast]; omega, ?_⟩) _ ((Ext.write rel ha).repV rel _ _ rw')
      exact repVs_dropLast (x.repVs rel _ _ t)
    · exact h.elim
  · exact h.elim
theorem mi_pop1 : MtR X "dict.pop" (rDm X.K (mi .pop1)) := by
  intro pins s σ H x xs v us Q I rx r h
  obtain ⟨EX, as, S, dx, ds, rel, hx, hxs, h⟩ := h
  have hds : ∃ i d, dx = .ref i ∧ ds = [d] := by
    unfold mi at h
    split at h
    all_goals (try (rename_i z ; cases z))
    all_goals first | exact h.elim | exact ⟨_, _, rfl, rfl⟩
  obtain ⟨i, d, rfl, rfl⟩ := hds
  obtain ⟨y, rfl, hy⟩ := repVs1 hxs
  simp only [RepV] at hx
  obtain ⟨a, rfl, ha⟩ := hx
  simp only [mi] at h
  split at h
  · rename_i kvs e
    split at h
    · rename_i k ek
      split at h
      · rename_i d ed
        obtain ⟨rfl, hk⟩ := keyD_rep hy ek
        obtain ⟨ks, z1, l, hk'⟩ := rel.cell _ _ _ e ha
        obtain ⟨u, rfl, ru⟩ := vals1 r
        obtain rfl : v = Value.ref a := rx
        rcases hk'.val k with ⟨e1, e2⟩ | ⟨d', w, e1, e2, r1⟩
        · rw [ed] at e1; cases e1
        · rw [ed] at e1; cases e1
          refine d_pop (more := []) I z1 ru e2 (.inl rfl) fun w' s' I' r' => ⟨w, _, I', r', ?_⟩
          exact Post.set h rel ha (fun x => ⟨_, upd_same, Nat.le_trans (List.length_filter_le _ _) l, RepK.drop k (x.repK rel _ _ hk')⟩) _ ((Ext.write rel ha).repV rel _ _ r1)
      · exact h.elim
    · exact h.elim
  · exact h.elim
theorem mi_pop2 : MtR X "dict.pop" (rDm X.K (mi .pop2)) := by
  intro pins s σ H x xs v us Q I rx r h
  obtain ⟨EX, as, S, dx, ds, rel, hx, hxs, h⟩ := h
  have hds : ∃ i d e, dx = .ref i ∧ ds = [d, e] := by
    unfold mi at h
    split at h
    all_goals (try (rename_i z ; cases z))
    all_goals first | exact h.elim | exact ⟨_, _, _, rfl, rfl⟩
  obtain ⟨i, d, e, rfl, rfl⟩ := hds
  obtain ⟨y, z, rfl, hy, hz⟩ := repVs2 hxs
  simp only [RepV] at hx
  obtain ⟨a, rfl, ha⟩ := hx
  simp only [mi] at h
  split at h
  · rename_i kvs e
    split at h
    · rename_i k ek
      obtain ⟨rfl, hk⟩ := keyD_rep hy ek
      obtain ⟨ks, z1, l, hk'⟩ := rel.cell _ _ _ e ha
      obtain ⟨u, u2, rfl, ru, ru2⟩ := vals2 r
      obtain rfl : v = Value.ref a := rx
      rcases hk'.val k with ⟨e1, e2⟩ | ⟨d', w, e1, e2, r1⟩
      · rw [e1] at h
        exact d_popD I z1 ru e2 fun s' I' => ⟨z, H, I', ru2, h.here rel _ hz⟩
      · rw [e1] at h
        refine d_pop (more := [u2]) I z1 ru e2 (.inr ⟨_, rfl⟩) fun w' s' I' r' => ⟨w, _, I', r', ?_⟩
        exact Post.set h rel ha (fun x => ⟨_, upd_same, Nat.le_trans (List.length_filter_le _ _) l, RepK.drop k (x.repK rel _ _ hk')⟩) _ ((Ext.write rel ha).repV rel _ _ r1)
    · exact h.elim
  · exact h.elim
theorem mi_join : MtR X "str.join" (rDm X.K (mi .join)) := by
  intro pins s σ H x xs v us Q I rx r h
  obtain ⟨EX, as, S, dx, ds, rel, hx, hxs, h⟩ := h
  have hds : ∃ i j, dx = .str i ∧ ds = [.ref j] := by
    unfold mi at h
    split at h
    all_goals (try (rename_i z ; cases z))
    all_goals first | exact h.elim | exact ⟨_, _, rfl, rfl⟩
  obtain ⟨i, j, rfl, rfl⟩ := hds
  obtain ⟨y, rfl, hy⟩ := repVs1 hxs
  simp only [RepV] at hx hy
  obtain ⟨a, rfl, ha⟩ := hy
  simp only [mi] at h
  split at h
  · rename_i e
    obtain ⟨vs, z1, l, t⟩ := rel.cell _ _ _ e ha
    split at h
    · rename_i ys ey
      split at h
      · rename_i hl
        have hv := t.strs ey
        subst hv
        refine mt_join pins s σ H _ _ v us Q I rx r ⟨i, a, ys, hx.1, rfl, .inl (SqL.of z1), hl, h.here rel _ ?_⟩
        simp only [RepV]
        refine ⟨trivial, strOk_mem.mpr fun c hc => ?_⟩
        have hc' : c ∈ tl (Txt.join i ys) := hc
        rw [join_eq, tl_join] at hc'
        rcases joinL_mem hc' with q | ⟨p, hp, q⟩
        · exact strOk_mem.mp hx.2 c q
        · obtain ⟨y, hy, rfl⟩ := List.mem_map.mp hp
          exact strOk_mem.mp (t.strsOk ey y hy) c q
      · exact h.elim
    · exact h.elim
  · exact h.elim
/-! ### stores by place -/
theorem setD_ok (hu : X.A.units + 65 < cLine) : PSet X (fun o i v H Q => ∃ (EX : XW) (as : List Addr) (S : Store) (dx dy d : D), RelS X.K as H S ∧ RepV X.K as H dx o ∧ RepV X.K as H dy i ∧ RepV X.K as H d v ∧
    Post X.K EX as H (setD dx dy d S) fun _ _ _ H' => Q H') := by
  intro pins s σ H o i v ov iv u Q I ro ri rv h
  obtain ⟨EX, as, S, dx, dy, d, rel, hx, hy, hd, h⟩ := h
  unfold setD at h
  split at h
  · rename_i r
    simp only [RepV] at hx
    obtain ⟨a, rfl, ha⟩ := hx
    split at h
    · rename_i e
      obtain ⟨vs, z1, l, t⟩ := rel.cell _ _ _ e ha
      split at h
      · rename_i k
        simp only [RepV] at hy
        split at h
        · rename_i j ej
          refine set_list pins s σ H _ i v ov iv u Q I ro ri rv ⟨a, vs, k, j, rfl, hy, z1, by rw [t.length]; exact ej, ?_⟩
          exact Post.set h rel ha (fun x => ⟨_, upd_same, by rw [List.length_set]; exact l, RepVs.set (x.repV rel _ _ hd) j (x.repVs rel _ _ t)⟩)
        · exact h.elim
      · exact h.elim
    · rename_i kvs e
      obtain ⟨ks, z1, l, hk'⟩ := rel.cell _ _ _ e ha
      split at h
      · rename_i k ek
        split at h
        · rename_i hl
          obtain ⟨rfl, hk⟩ := keyD_rep hy ek
          obtain rfl : ov = Value.ref a := ro
          refine d_setItem (by omega) I (DPut.k z1 (by rw [hk'.length]; exact hl)) ri rv fun s' I' => ⟨_, I', ?_⟩
          exact Post.set h rel ha (fun x => ⟨_, upd_same, Nat.le_trans (dput_len _ _ _) hl, (x.repK rel _ _ hk').put hk (x.repV rel _ _ hd)⟩)
        · exact h.elim
      · exact h.elim
    · exact h.elim
  · exact h.elim
end
end Pv
set_option Elab.async false
set_option linter.all false
set_option maxRecDepth 100000
set_option maxHeartbeats 1000000
/-! from the kit's syntax to the small one -/
namespace Pv
open PySem PySem.Spec PyProof.Rows L2

structure Cfg where
  G : List (Str × D)
  T : Tbl
/-- where an expression stands: the scope, the slots' names, the names that may be stored -/
structure Sc where
  sc : Scope
  N : List Str
  fn : Str → Bool
def visB : Option NameKind → Bool
  | some .local => true
  | some .cell => true
  | some .free => true
  | _ => false
def ixOf (x : Str) : List Str → Option Nat
  | [] => none
  | y :: r => if y = x then some 0 else (ixOf x r).map (· + 1)
def slotOf (c : Sc) (x : Str) : Option Nat := if visB (c.sc.names.lookup x) = true ∧ (x == ("__debug__" : Str)) = false ∧ (x == ("__classdict__" : Str)) = false then ixOf x c.N else none
def glB (c : Sc) (x : Str) : Bool := decide (c.sc.names.lookup x = some .globalImplicit) && !(x == ("__debug__" : Str))
def bTab : List (Str × Nat × B) := [("len", 1, .len), ("abs", 1, .abs), ("all", 1, .all), ("sum", 1, .sum), ("min", 1, .min1), ("max", 1, .max1), ("min", 2, .min2), ("max", 2, .max2), ("list", 1, .list), ("tuple", 1, .tuple), ("dict", 1, .dict), ("int", 1, .int), ("str", 1, .str), ("repr", 1, .repr), ("sorted", 1, .sorted)]
def bOf (x : Str) (n : Nat) : Option B := (bTab.find? fun p => decide (p.1 = x ∧ p.2.1 = n)).map (·.2.2)
def mTab : List (Str × Nat × M) := [("append", 1, .append), ("extend", 1, .extend), ("pop", 0, .pop0), ("pop", 1, .pop1), ("pop", 2, .pop2), ("get", 1, .get1), ("get", 2, .get2), ("index", 1, .index), ("join", 1, .join), ("upper", 0, .upper)]
def mOf (x : Str) (n : Nat) : Option M := (mTab.find? fun p => decide (p.1 = x ∧ p.2.1 = n)).map (·.2.2)
def tyOf (x : Str) : Option Ty := if x = "int" then some .int else if x = "bool" then some .bool else if x = "str" then some .str else if x = "tuple" then some .tuple else if x = "list" then some .list else if x = "dict" then some .dict else none
def okBin : Operator → Bool
  | .Add => true | .Sub => true | .Mult => true | .FloorDiv => true | .Mod => true | .Pow => true | _ => false
def tgName (c : Sc) : Expr → Option Nat
  | .Name x _ => if c.sc.names.lookup x = some .local ∨ (c.sc.names.lookup x = some .cell ∧ c.fn x = true) then ixOf x c.N else none
  | _ => none
def compTg (c : Sc) : Expr → Option Tg
  | .Name x p => (tgName c (.Name x p)).map .nm
  | .Tuple es _ _ => (es.mapM (tgName c)).map .tp
  | _ => none
def tgSlots : Tg → List Nat
  | .nm i => [i]
  | .tp is => is
def mkEs : List E → Es
  | [] => .nil
  | e :: r => .cons e (mkEs r)
/-- a comprehension's own names with their slots -/
def ownOf (c : Sc) (scope : Scope) : List (Str × Nat) := (scope.names.filter fun y => decide (y.2 = .local) || decide (y.2 = .cell)).filterMap fun y => (ixOf y.1 c.N).map fun i => (y.1, i)
def blkSc (c : Sc) (scope : Scope) : Sc := ⟨relS scope c.sc, c.N, fun x => scope.names.lookup x == some .cell⟩
/-- what a for walks: its kind, its parts -/
def iterOf (c : Sc) : Expr → IK × List Expr
  | .Call (.Name x p) [a] [] q => if x = "range" ∧ glB c x = true then (.range, [a]) else if x = "reversed" ∧ glB c x = true then (.rev, [a]) else (.plain, [.Call (.Name x p) [a] [] q])
  | .Call (.Name x p) [a, b] [] q => if x = "range" ∧ glB c x = true then (.range, [a, b]) else (.plain, [.Call (.Name x p) [a, b] [] q])
  | e => (.plain, [e])
/-- a test's part that is no 'a if t else b' -/
def noIf : Expr → Bool
  | .IfExp .. => false
  | _ => true
mutual
def cE (g : Cfg) : Nat → Sc → Expr → Option E
  | 0, _, _ => none
  | n + 1, c, e => match e with
    | .Constant (.int i) _ _ => some (.cst (.int i))
    | .Constant (.bool b) _ _ => some (.cst (.bl b))
    | .Constant .none _ _ => some (.cst .non)
    | .Constant (.str s) _ _ => if PyData.strOk s = true then some (.cst (.str s)) else none
    | .Name x _ => (match slotOf c x with
      | some i => some (.var i)
      | none => if glB c x = true then (g.G.lookup x).map (.glb x) else none)
    | .BinOp a op b _ => if okBin op = true then (match cE g n c a, cE g n c b with
      | some a', some b' => some (.bin op a' b')
      | _, _ => none) else none
    | .UnaryOp .USub a _ => (cE g n c a).map .neg
    | .UnaryOp .Not a _ => if noIf a = true then (cE g n c a).map .not else none
    | .BoolOp _ [a] _ => if noIf a = true then cE g n c a else none
    | .BoolOp .And (a :: b :: r) p => if noIf a = true then (match cE g n c a, cE g n c (.BoolOp .And (b :: r) p) with
      | some a', some b' => some (.and a' b')
      | _, _ => none) else none
    | .BoolOp .Or (a :: b :: r) p => if noIf a = true then (match cE g n c a, cE g n c (.BoolOp .Or (b :: r) p) with
      | some a', some b' => some (.or a' b')
      | _, _ => none) else none
    | .IfExp t a b _ => if noIf t = true then (match cE g n c t, cE g n c a, cE g n c b with
      | some t', some a', some b' => some (.ite t' a' b')
      | _, _, _ => none) else none
    | .Compare a [op] [b] _ => (match cE g n c a, cE g n c b with
      | some a', some b' => some (.cmp op a' b')
      | _, _ => none)
    | .Compare a [o, p] [b, d] _ => (match cE g n c a, cE g n c b, cE g n c d with
      | some a', some b', some d' => some (.chn o p a' b' d')
      | _, _, _ => none)
    | .Tuple es _ _ => (cEs g n c es).map .tup
    | .List es _ => (cEs g n c es).map .lst
    | .Dict [] [] _ => some (.dic .nil)
    | .Subscript a (.Slice none none (some (.UnaryOp .USub (.Constant (.int 1) _ _) _)) _) _ => (cE g n c a).map .rvs
    | .Subscript a (.Slice lo hi none _) _ => (match cE g n c a, cO g n c lo, cO g n c hi with
      | some a', some l', some h' => some (.slc a' l' h')
      | _, _, _ => none)
    | .Subscript a i _ => (match cE g n c a, cE g n c i with
      | some a', some i' => some (.sub a' i')
      | _, _ => none)
    | .Call (.Name f _) (a :: r) [] _ => if glB c f = true then (match g.T.lookup f with
      | some _ => (cEs g n c (a :: r)).map (.cal f)
      | none => if f = "isinstance" then (match r with
          | [.Name t _] => if glB c t = true then (match cE g n c a, tyOf t with
            | some a', some t' => some (.isi a' t')
            | _, _ => none) else none
          | _ => none)
        else (match bOf f (r.length + 1), cEs g n c (a :: r) with
          | some b, some es' => some (.blt b es')
          | _, _ => none)) else none
    | .Call (.Attribute o m ap) es [] p => if (ap.endLine == p.line) = true then (match mOf m es.length, cE g n c o, cEs g n c es with
      | some m', some o', some es' => some (.mth m' o' es')
      | _, _, _ => none) else none
    | .ListComp elt [⟨tg, iter, ifs, 0⟩] scope _ => if blkC c.N c.sc scope (ownOf c scope) = true then (match compTg (blkSc c scope) tg, cEs g n c (iterOf c iter).2, cE g n (blkSc c scope) elt, ifs with
      | some t', some i', some e', [] => if (tgSlots t').all (fun j => decide (j ∈ (ownOf c scope).map (·.2))) = true then some (.lc e' t' (iterOf c iter).1 i' .no ((ownOf c scope).map (·.2))) else none
      | some t', some i', some e', [d] => if noIf d = true ∧ (tgSlots t').all (fun j => decide (j ∈ (ownOf c scope).map (·.2))) = true then (cE g n (blkSc c scope) d).map fun d' => .lc e' t' (iterOf c iter).1 i' (.so d') ((ownOf c scope).map (·.2)) else none
      | _, _, _, _ => none) else none
    | _ => none
def cEs (g : Cfg) : Nat → Sc → List Expr → Option Es
  | 0, _, _ => none
  | n + 1, c, es => match es with
    | [] => some .nil
    | e :: r => (match cE g n c e, cEs g n c r with
      | some e', some r' => some (.cons e' r')
      | _, _ => none)
def cO (g : Cfg) : Nat → Sc → Option Expr → Option Op
  | 0, _, _ => none
  | n + 1, c, o => match o with
    | none => some .no
    | some e => (cE g n c e).map .so
end
end Pv
set_option Elab.async false
set_option linter.all false
set_option maxRecDepth 100000
set_option maxHeartbeats 4000000
/-! a def's promise where nothing is being written out around it (for repr of nested data) -/
namespace Pv
open PySem PySem.Spec PyProof.Rows L2
structure FnG (P : Program) (w : World) (K : PySem.W.Frag) (mg : Str → Option Value) (base : Heap) (CX : CXT) (k : Nat) (f : Addr) (fd : FuncData) (ps : List Str) (sp : Sp) : Prop where
  len : ∀ vs H Q E, sp vs H Q E → vs.length = ps.length
  run : ∀ (A : Around) (outer : List PySem.Env) (s : Shared) (H : Hp) (args : Args) (us : List Value) (vs : List V) (Q : VK) (E : XK), A.guards = some [] → Room k A → Env0 P w K mg base A outer s H → BindsTo s fd args (ps.zip us) → Vals vs us → sp vs H Q E →
    codeAny (model P w) A (.call (.ref f) args) (CR CX outer P w H s Q E) s
section
variable {X : Cx} {CX : CXT} {k : Nat} {f : Addr} {fd : FuncData} {ps : List Str} {sp : Sp} {E : L2.St → XK} {x : Str} {p pos : Pos} {e : Expr} {es : List Expr} {t : TA}
theorem run_fnG {pins : List (Addr × Obj)} {σ : L2.St} {H : Hp} {s : Shared} {Q : VK} {us : List Value} {vs : List V} (F : FnG X.prog X.w X.K X.mg X.base CX k f fd ps sp) (hgd : X.A.guards = some []) (hr : Room k X.A) (hb : Binds X.K fd ps []) (hx : PassesAt CX X σ (E σ))
    (I : Inv X pins σ H s) (r : Vals vs us) (h : sp vs H Q (E σ)) : wpAny (model X.prog X.w) X.A (PySem.call (.ref f) us) (EP X pins σ Q) X.xe s := by
  have b := hb s us I.kIn (by rw [List.append_nil, ← r.length]; exact F.len _ _ _ _ h)
  rw [List.append_nil] at b
  refine wpAny_call (codeAny_mono (F.run X.A X.stack s H ⟨us, []⟩ us vs Q (E σ) hgd hr I.env0 b r h) fun z s' hq => ?_)
  rcases z with z | fl
  · exact hx pins H s z s' I hq
  · cases fl <;> first | exact I.after hq | exact hq.elim
theorem pe_callG (F : FnG X.prog X.w X.K X.mg X.base CX k f fd ps sp) (hgd : X.A.guards = some []) (hr : Room k X.A) (hg : Gl X x) (hm : X.mg x = some (.ref f)) (hk : PySem.W.keepIn X.K (.ref f) = true) (hb : Binds X.K fd ps []) (hx : ∀ σ, PassesAt CX X σ (E σ))
    (ha : PA X (e :: es) t) (hdb : (x == ("__debug__" : Str)) = false) (he : starEach (e :: es) X.env = (false, eval e X.env) :: starEach es X.env) (hpl : (backTo pos (starEach es X.env)).any (·.1) = false) :
    PE X (.Call (.Name x p) (e :: es) [] pos) (tCallS sp E t) :=
  ⟨fun pins s σ H Q I h => wpAny_Call_Name_kw (ld_glob I hg hm (PySem.W.callWith_K (h₀ := X.base) I.ok.mod.kin hk (thn (ha.run pos pins s σ H _ I h) fun us s1 ⟨vs, H1, I1, r, q⟩ => ⟨I1.kIn, run_fnG F hgd hr hb (hx σ) I1 r q⟩) he hpl) hdb)⟩
end
/-- a def of the text, by its body -/
theorem FnG.of {P : Program} {w : World} {K : PySem.W.Frag} {mg : Str → Option Value} {base : Heap} {x qual : Str} {params : Arguments} {body : List Stmt} {scope : Scope} {dvs : List V} {kws : List (Str × V)} {f : Addr} {fd : FuncData} {CX : CXT} {N ps : List Str} {k : Nat} {sp : Sp}
    (F : FunD K x qual params body scope dvs kws f fd) (S : FnScope N ps scope) (len : ∀ vs H Q E, sp vs H Q E → vs.length = ps.length)
    (hbody : ∀ (cdv : Value) (A : Around) (outer : List PySem.Env) (s : Shared) (H : Hp) (vs : List V) (Q : VK) (E : XK), A.guards = some [] → Room k (A.deeper (envOfC qual scope s.heap.objs.size f cdv)) → sp vs H Q E →
      ∃ t, PSs (cxOf CX P w K mg base N qual scope f cdv A outer s H E) body t ∧ t { nx := fun _ H' => Q .non H', rt := Q } (L2.start N vs) H) : FnG P w K mg base CX (k + 1) f fd ps sp := by
  obtain ⟨oc, od, dV, kV, doc, pm, an, cdv, ct, osl, rfl, lk, hcd, _, _⟩ := F.ex
  refine ⟨len, fun A outer s H args us vs Q E hgd hr e0 hb r hsp => ?_⟩
  have KX : K.In s.heap := e0.mod.kin.keeps fun b o e => (e0.bs b o e).1
  refine codeAny_call_function hr.depth (KX _ _ lk) rfl S.co S.gen rfl (PySem.W.codeRec_of KX hcd) (hb _ _ _ _ ?_)
  refine wpAny_newFunctionEnv_cells S.kind (fun y hy => ?_) fun env he s1 x => ?_
  · obtain ⟨n, v⟩ := y
    rcases S.par n (List.of_mem_zip hy).1 with q | q
    · exact .inl q
    · exact .inr ⟨q, PySem.W.cellsFrom_some _ _ _ (.inl q)⟩
  subst he
  refine ⟨(e0.mod.nolimit.keeps fun b o e => (e0.bs b o e).1).keeps x.toInCall.keep, codeAny_func ?_⟩
  obtain ⟨t, ht, hq⟩ := hbody cdv A outer s H vs Q E hgd (hr.deeper _) hsp
  refine wpAny_mono (ht.run [] s1 (L2.start N vs) H _ (inv_start S hr.hd e0 (len _ _ _ _ hsp) r x) hq) (fun fl s' hs => ?_) fun e s' hs => hs
  cases fl with
  | ret u =>
    obtain ⟨v, σ', H', J, rv, q⟩ := hs
    exact ⟨v, H', J.os, J.bare, J.base, J.hok, rv, q⟩
  | next =>
    obtain ⟨σ', H', J, q⟩ := hs
    exact ⟨V.non, H', J.os, J.bare, J.base, J.hok, rfl, q⟩
  | brk =>
    obtain ⟨_, _, _, q⟩ := hs
    exact q.elim
  | cont =>
    obtain ⟨_, _, _, q⟩ := hs
    exact q.elim
/-! ### t[::-1], t a tuple -/
theorem rev_places (n : Nat) : Builtin.Slice.sliceAdjust none none (-1) (n : Int) = ((n : Int) - 1, -1) ∧ Builtin.Slice.slicePlaces ((n : Int) - 1) (-1) (-1) = n := by
  refine ⟨rfl, ?_⟩
  unfold Builtin.Slice.slicePlaces
  rw [if_neg (by decide)]
  split
  · show ((((n : Int) - 1 - (-1) - 1) / 1 + 1)).toNat = n
    rw [Int.ediv_one]; omega
  · omega
theorem rev_pick (xs : Array Value) : ((List.range xs.size).filterMap fun (m : Nat) => xs[(((xs.size : Int) - 1) + (m : Int) * (-1)).toNat]?).toArray = xs.toList.reverse.toArray := by
  have e : (fun (m : Nat) => xs[(((xs.size : Int) - 1) + (m : Int) * (-1)).toNat]?) = fun m => xs[xs.size - 1 - m]? := by
    funext m
    have : (((xs.size : Int) - 1) + (m : Int) * (-1)).toNat = xs.size - 1 - m := by omega
    rw [this]
  rw [e]
  have h1 : ((List.range xs.size).map fun m => xs.size - 1 - m).filterMap (fun k => xs[k]?) = xs.toList.reverse := by
    rw [PySem.W.krv_range, List.filterMap_reverse, PySem.W.krv_all]
  rw [List.filterMap_map] at h1
  rw [← h1]; rfl
section
variable {prog : Program} {w : World} {A : Around} {E : Value → Shared → Prop} {s : Shared}
open HT in
theorem getItem_tuple_rev {t sl : Addr} {items : Array Value} {vs : Value} {Q : Value → Shared → Prop} (ht : IsTup s.heap t items) (hs : s.heap.IsSliceOf sl .none .none vs) (ps : IsPart vs (some (-1)))
    (h : Q (.ref s.heap.objs.size) { s with heap := s.heap.push { cls := .type "tuple", data := .seq items.toList.reverse.toArray } })
    (hsz : items.size ≤ sizeLine) : wpAny (model prog w) A (getItem (.ref t) (.ref sl)) Q E s := by
  have htake : sizeOk (.seq items.toList.reverse.toArray) := by
    show items.toList.reverse.toArray.size ≤ sizeLine
    simpa using hsz
  obtain ⟨os, hos, hcs, hds⟩ := id hs
  have hTs : s.TypeIs (.ref sl) "slice" := ⟨os, hos, hcs⟩
  unfold getItem
  try with_reducible refine wpAny_holding ?_
  first | refine wpAny_bind (wpAny_pure ?_) | skip
  refine wpAny_bind (wpAny_sequenceKey ht.typeIs (by decide) ?_)
  refine wpAny_bind (wpAny_callSpecial?_slot (name := Str.ofString "__getitem__") ht.typeIs PyProof.Rows.slot_tuple_getitem
    (wpAny_call_entry PyProof.Rows.slot_tuple_getitem ht.typeIs entry_tuple_getitem ?_ (args_tuple_getitem _ _)))
  show wpAny _ _ (Builtin.Tuple.tupleItemsOf (.ref t) >>= _) _ _ s
  refine wpAny_bind (tupleItemsOf_ ht ?_)
  refine wpAny_bind (wpAny_typeOf hTs ?_)
  rw [if_pos (by decide)]
  have ap : ∀ {A : Around} {E : Value → Shared → Prop} {Q : Int × Int × Nat → Shared → Prop}, Q ((items.size : Int) - 1, -1, items.size) s → wpAny (model prog w) A (Builtin.Slice.sliceApplied (.ref sl) (pure (items.size : Int))) Q E s := by
    intro A E Q h
    unfold Builtin.Slice.sliceApplied Builtin.Slice.sliceFields
    refine wpAny_bind (wpAny_bind (wpAny_field hos hds (x := .none) rfl (wpAny_bind (wpAny_field hos hds (x := .none) rfl (wpAny_bind (wpAny_field hos hds (x := vs) rfl (wpAny_pure ?_)))))))
    refine wpAny_bind (slicePart_ ps ?_)
    show wpAny _ _ (if ((-1 : Int) == 0) = true then _ else _) _ _ s
    rw [if_neg (by decide)]
    refine wpAny_bind (slicePart_none (wpAny_bind (slicePart_none (wpAny_bind (wpAny_pure ?_)))))
    show wpAny _ _ (match Builtin.Slice.sliceAdjust none none (-1) (items.size : Int) with | (lo, hi) => pure (lo, (-1 : Int), Builtin.Slice.slicePlaces lo hi (-1))) _ _ s
    rw [(rev_places items.size).1]
    show wpAny _ _ (pure ((items.size : Int) - 1, (-1 : Int), Builtin.Slice.slicePlaces ((items.size : Int) - 1) (-1) (-1))) _ _ s
    rw [(rev_places items.size).2]
    exact wpAny_pure h
  refine wpAny_bind (ap ?_)
  have hno : ¬ ((((items.size : Int) - 1) == 0 && (-1 : Int) == 1 && items.size == items.size) = true) := by
    intro q
    rw [Bool.and_eq_true, Bool.and_eq_true] at q
    exact absurd q.1.2 (by decide)
  show wpAny _ _ (if (((items.size : Int) - 1) == 0 && (-1 : Int) == 1 && items.size == items.size) = true then _ else _) _ _ s
  rw [if_neg hno, rev_pick]
  first
    | exact wpAny_bind (m := Builtin.Tuple.tupleExact _) (wpAny_newObj_type (wpAny_pure ⟨_, rfl, wpAny_pure h⟩) htake)
    | exact wpAny_bind (m := Builtin.Tuple.tupleExact _) (wpAny_newObj_type (wpAny_bind (wpAny_pure (wpAny_pure ⟨_, rfl, wpAny_pure h⟩))) htake)
    | exact wpAny_bind (wpAny_bind (m := Builtin.Tuple.tupleExact _) (wpAny_newObj_type (wpAny_pure (wpAny_pure ⟨_, rfl, wpAny_pure h⟩)) htake))
    | exact wpAny_bind (wpAny_bind (m := Builtin.Tuple.tupleExact _) (wpAny_newObj_type (wpAny_pure ⟨_, rfl, wpAny_pure h⟩) htake))
end
section
variable {X : Cx}
def tRvT (K : PySem.W.Frag) (te : TE) : TE := fun σ H Q => te σ H fun x H1 => ∃ a xs, x = .ref a ∧ SqT K H1 a xs ∧ ∀ p, H1 p = none → Q (.ref p) (upd H1 p (.tup xs.reverse))
theorem pe_rvT {e : Expr} {te : TE} {k : Nat} {p1 p2 p3 pos : Pos} (he : PE X e te) : PE X (.Subscript e (.Slice none none (some (.UnaryOp .USub (.Constant (.int 1) k p1) p2)) p3) pos) (tRvT X.K te) := by
  refine ⟨fun pins s σ H Q I h => ?_⟩
  refine Subscript_ (thn (he.run pins s σ H _ I h) fun v s1 ⟨x, H1, I1, r1, a, xs, ex, hx, q⟩ => ?_)
  subst ex
  cases r1
  refine wpAny_Slice (thn (po_none.run pins s1 σ H1 (fun o H2 => o = none ∧ H2 = H1) I1 ⟨rfl, rfl⟩) fun vl s2 ⟨l, H2, I2, pl, el, e2⟩ => ?_)
  subst el e2
  refine thn (po_none.run pins s2 σ H2 (fun o H3 => o = none ∧ H3 = H2) I2 ⟨rfl, rfl⟩) fun vu s3 ⟨u, H3, I3, pu, eu, e3⟩ => ?_
  subst eu e3
  have hst : PO X (some (.UnaryOp .USub (.Constant (.int 1) k p1) p2)) (tPart (tUn (rU fun i => .int (-i)) (tC (.int 1)))) := po_some (pe_un un_neg pe_int)
  refine thn (hst.run pins s3 σ H3 (fun o H4 => o = some (-1) ∧ H4 = H3) I3 ⟨1, rfl, -1, rfl, rfl, rfl⟩) fun vs s4 ⟨o, H4, I4, ps, eo, e4⟩ => ?_
  subst eo e4
  cases pl
  cases pu
  have I5 : Inv X pins σ H4 { s4 with heap := s4.heap.push { cls := .type "slice", data := .fields #[.none, .none, vs] } } := I4.kept (t' := s4.toks) fun b ob q => Heap.get?_push_of_some _ q
  obtain ⟨its, r, ht, hz⟩ := I5.tuple hx
  have hlen := r.length
  show wpAny (model X.prog X.w) X.A (subscriptTail e (.Slice none none (some (.UnaryOp .USub (.Constant (.int 1) k p1) p2)) p3) (.ref a) (.ref s4.heap.objs.size)) (EP X pins σ Q) X.xe { s4 with heap := s4.heap.push { cls := .type "slice", data := .fields #[.none, .none, vs] } }
  refine tail_any (ops := [.ref a, .ref s4.heap.objs.size]) ht.typeIs (PyProof.Rows.slot_tuple_getitem.lookup) ?_ (by with_unfolding_all rfl)
  refine getItem_tuple_rev ht (Heap.IsSliceOf.new _ .none .none vs) ps ?_ (by rw [List.size_toArray]; omega)
  refine ⟨.ref _, _, I5.laid (t' := s4.toks) (o := .tup xs.reverse) (fun b ob q => Heap.get?_push_of_some _ q) (Nat.le_refl _) ?_, rfl, q _ (I5.hok.fresh (Nat.le_refl _))⟩
  exact ⟨by rw [List.length_reverse]; exact hz, _, r.reverse, IsTup.new _ _⟩
end
/-! ### the law's call -/
theorem law_callG {P : Program} {w : World} {K : PySem.W.Frag} {mg mb : Str → Option Value} {CX : CXT} {k : Nat} {fa a : Addr} {fd : FuncData} {x : Str} {sp : Sp} {s₁ : Shared} {vs : List Value} {ns : List Int}
    (KX : K.In s₁.heap) (hns : s₁.heap.Ns mainGlobals mg) (hb : s₁.heap.Ns builtinsNs mb) (hbb : ∀ x : Str, x ≠ "__name__" → mb x = bootBuiltins x) (hlim : s₁.heap.NoLimit) (hg : s₁.gens = #[])
    (ha : s₁.heap.get? a = some { cls := .type "list", data := .seq vs.toArray }) (hi : IntsAre vs ns) (hl : ns.length ≤ sizeLine) (hr : Room k callerA)
    (F : ∀ base : Heap, K.In base → base.Ns mainGlobals mg → FnG P w K mg base CX k fa fd [x] sp) (hbind : ∀ (s : Shared) (u : Value), BindsTo s fd ⟨[u], []⟩ [(x, u)])
    (hsp : ∀ H : Hp, Only H → SqL K H a (ns.map V.int) → sp [.ref a] H (fun v _ => v = .bl true) fun _ _ _ => False)
    (hCX : ∀ H e s', CX [] H s₁ (fun _ _ _ => False) e s' → False) :
    codeAny (model P w) callerA (.call (.ref fa) ⟨[.ref a], []⟩) (fun r s' => r = .ok (.ret (.bool true)) ∧ OldK s₁.heap s'.heap ∧ s'.os = s₁.os ∧ AllBare s'.gens) s₁ := by
  have rv := vals_ints hi
  -- what is tracked: nothing, or the script as it lies
  obtain ⟨H, hO, hS, hok, hA, hK⟩ : ∃ H : Hp, Only H ∧ SqL K H a (ns.map V.int) ∧ HOk P w H s₁.heap ∧ (∀ b, H b ≠ none → b = a) ∧ (H a ≠ none → K.lookup a = none) := by
    cases hk : K.lookup a with
    | some o =>
      have e := KX a o hk
      rw [ha] at e
      cases e
      exact ⟨fun _ => none, fun _ => .inl rfl, .inr ⟨_, vs.toArray, _, hk, rfl, rfl, rfl, by rw [List.size_toArray, hi.length]; exact hl, by simpa using rv⟩, (fun b u z => by cases z), fun b z => absurd rfl z, fun z => absurd rfl z⟩
    | none =>
      refine ⟨fun b => if b = a then some (.frz { cls := .type "list", data := .seq vs.toArray } (.lst (ns.map V.int))) else none, fun b => ?_, .inl (.inr ⟨{ cls := .type "list", data := .seq vs.toArray }, if_pos rfl⟩), fun b u z => ?_, fun b z => ?_, fun _ => rfl⟩
      · by_cases hb : b = a
        · exact .inr ⟨_, _, if_pos hb⟩
        · exact .inl (if_neg hb)
      · by_cases hb : b = a
        · have z' := (if_pos hb).symm.trans z
          cases z'
          subst hb
          exact ⟨ha, by rw [List.length_map]; exact hl, vs, _, rv, ha⟩
        · cases (if_neg hb).symm.trans z
      · by_cases hb : b = a
        · exact hb
        · exact absurd (if_neg hb) z
  have away : ∀ {b : Addr} {o : Obj}, s₁.heap.get? b = some o → (b = a → K.lookup a ≠ none ∨ ∃ es ep, o.data = .dict es ep) → H b = none := fun {b o} e n => by
    cases q : H b with
    | none => rfl
    | some u =>
      have eb := hA b (by rw [q]; simp)
      rcases n eb with n | ⟨es, ep, d⟩
      · exact absurd (hK (by rw [← eb, q]; simp)) n
      · rw [eb, ha] at e
        cases e
        cases (show Data.seq vs.toArray _ = Data.dict es ep from d)
  have nsK : ∀ {b : Addr} {m : Str → Option Value}, s₁.heap.Ns b m → (hidT s₁.heap H).Ns b m := fun ⟨o, es, ep, e, d, r⟩ => ⟨o, es, ep, hidT_get e (away e fun _ => .inr ⟨es, ep, d⟩), d, r⟩
  have hKb : K.In (hidT s₁.heap H) := fun b o e => hidT_get (KX b o e) (away (KX b o e) fun eb => .inl (by rw [← eb, e]; simp))
  have hM : Mod K mg (hidT s₁.heap H) := ⟨hKb, nsK hns, ⟨mb, nsK hb, hbb⟩, let ⟨mc, h1, h2⟩ := hlim; ⟨mc, nsK h1, h2⟩⟩
  have e0 : Env0 P w K mg (hidT s₁.heap H) callerA [] s₁ H := ⟨rfl, hM, fun b o e => of_hidT e, Nat.le_of_eq (hidT_size _ _), trivial, fun b hb => (by cases hb), hok, .of_eq hg⟩
  refine codeAny_mono ((F _ hKb (nsK hns)).run callerA [] s₁ H ⟨[.ref a], []⟩ [.ref a] [.ref a] _ _ rfl hr e0 (hbind s₁ (.ref a)) (.cons rfl .nil) (hsp H hO hS)) fun r s' h => ?_
  rcases r with e | fl
  · exact (hCX H e s' h).elim
  cases fl with
  | next => exact False.elim h
  | brk => exact False.elim h
  | cont => exact False.elim h
  | ret u =>
    obtain ⟨v, H', os, bare, un, hok', r', q⟩ := h
    obtain rfl : v = .bl true := q
    obtain rfl : u = Value.bool true := r'
    refine ⟨rfl, OldK.of_keep fun b o e => ?_, os, bare⟩
    rcases hO b with z | ⟨ob, xs, z⟩
    · exact un.keep b o e z (fun z => by cases z) (fun z => by cases z)
    · have z2 := un.frzs b ob _ z
      have e1 := (hok b _ z).1
      have e2 := (hok' b _ z2).1
      rw [e] at e1
      cases e1
      exact e2
end Pv
set_option Elab.async false
set_option linter.all false
set_option maxRecDepth 100000
set_option maxHeartbeats 1000000
/-! the interpreter's readings; expressions -/
namespace Pv
open PySem PySem.Spec PyProof.Rows L2

/-! ### weaker readings -/
section
variable {X : Cx}
theorem PEwk {e : Expr} {t t' : TE} (h : PE X e t) (f : ∀ σ H Q, t' σ H Q → t σ H Q) : PE X e t' := ⟨fun pins s σ H Q I q => h.run pins s σ H Q I (f σ H Q q)⟩
theorem PTwk {e : Expr} {t t' : TT} (h : PT X e t) (f : ∀ σ H Q, t' σ H Q → t σ H Q) : PT X e t' := ⟨fun pins s σ H Q I q => h.run pins s σ H Q I (f σ H Q q)⟩
theorem PWwk {e : Expr} {t t' : TT} (h : PW X e t) (f : ∀ σ H Q, t' σ H Q → t σ H Q) : PW X e t' := ⟨fun w pins s σ H Q I q => h.run w pins s σ H Q I (f σ H Q q)⟩
theorem PAwk {es : List Expr} {t t' : TA} (h : PA X es t) (f : ∀ σ H Q, t' σ H Q → t σ H Q) : PA X es t' := ⟨fun p pins s σ H Q I q => h.run p pins s σ H Q I (f σ H Q q)⟩
theorem POwk {e : Option Expr} {t t' : TO} (h : PO X e t) (f : ∀ σ H Q, t' σ H Q → t σ H Q) : PO X e t' := ⟨fun pins s σ H Q I q => h.run pins s σ H Q I (f σ H Q q)⟩
theorem PSwk {e : Stmt} {t t' : TS} (h : PS X e t) (f : ∀ D σ H, t' D σ H → t D σ H) : PS X e t' := ⟨fun pins s σ H D I q => h.run pins s σ H D I (f D σ H q)⟩
theorem PSswk {e : List Stmt} {t t' : TS} (h : PSs X e t) (f : ∀ D σ H, t' D σ H → t D σ H) : PSs X e t' := ⟨fun pins s σ H D I q => h.run pins s σ H D I (f D σ H q)⟩
theorem PIwk {tg e : Expr} {t t' : TI} (h : PI X tg e t) (f : ∀ σ H R, t' σ H R → t σ H R) : PI X tg e t' := ⟨fun pins s σ H R I q => h.run pins s σ H R I (f σ H R q)⟩
theorem PGwk {e : Expr} {t t' : TG} (h : PG X e t) (f : ∀ v σ H Q, t' v σ H Q → t v σ H Q) : PG X e t' := ⟨fun pins s σ H v u Q I r q => h.run pins s σ H v u Q I r (f v σ H Q q)⟩
theorem PEor {e : Expr} {t t' : TE} (h : PE X e t) (h' : PE X e t') : PE X e (fun σ H Q => t σ H Q ∨ t' σ H Q) := ⟨fun pins s σ H Q I q => q.elim (h.run pins s σ H Q I) (h'.run pins s σ H Q I)⟩
theorem PIor {tg e : Expr} {t t' : TI} (h : PI X tg e t) (h' : PI X tg e t') : PI X tg e (fun σ H Q => t σ H Q ∨ t' σ H Q) := ⟨fun pins s σ H Q I q => q.elim (h.run pins s σ H Q I) (h'.run pins s σ H Q I)⟩
end

/-! ### the readings -/
def RepF (K : PySem.W.Frag) (as : List Addr) (H : Hp) : List (Str × D) → List (Str × V) → Prop
  | [], vs => vs = []
  | (f, d) :: r, vs => ∃ v q, vs = (f, v) :: q ∧ RepV K as H d v ∧ RepF K as H r q
/-- how an exception lies -/
def ExnR (K : PySem.W.Frag) (as : List Addr) (H : Hp) (c : Str) (fs : List (Str × D)) (cls : Value) (dx : Option Addr) : Prop :=
  cls = .ref (He.ga K c) ∧ ((fs = [] ∧ dx = none) ∨ ∃ d vs, dx = some d ∧ H d = some (.xd vs) ∧ RepF K as H fs vs)
def EXW (K : PySem.W.Frag) (W : WX) (σ : L2.St) : XW := fun c fs _ as' H' => ∀ cls dx, ExnR K as' H' c fs cls dx → W cls dx σ H'
def tE (K : PySem.W.Frag) (W : WX) (m : Env → Store → R D) : TE := fun σ H Q => ∃ ρ S as, RelS K as H S ∧ EnvR K as H ρ σ ∧ Post K (EXW K W σ) as H (m ρ S) (VQ K Q)
def tT (K : PySem.W.Frag) (W : WX) (m : Env → Store → R D) : TT := fun σ H Q => ∃ ρ S as, RelS K as H S ∧ EnvR K as H ρ σ ∧ Post K (EXW K W σ) as H (m ρ S) fun d _ _ H' => ∃ b, d = .bl b ∧ Q b H'
def tAs (K : PySem.W.Frag) (W : WX) (m : Env → Store → R (List D)) : TA := fun σ H Q => ∃ ρ S as, RelS K as H S ∧ EnvR K as H ρ σ ∧ Post K (EXW K W σ) as H (m ρ S) fun ds _ as' H' => ∀ vs, RepVs K as' H' ds vs → Q vs H'
def tOp1 (K : PySem.W.Frag) (W : WX) (m : Env → Store → R (Option Int)) : TO := fun σ H Q => ∃ ρ S as, RelS K as H S ∧ EnvR K as H ρ σ ∧ Post K (EXW K W σ) as H (m ρ S) fun o _ _ H' => Q o H'
def spD (K : PySem.W.Frag) (n : Nat) (m : List D → Store → R D) : Sp := fun vs H Q E => ∃ as S ds, RelS K as H S ∧ RepVs K as H ds vs ∧ ds.length = n ∧
  Post K (fun c fs _ as' H' => ∀ cls dx, ExnR K as' H' c fs cls dx → E cls dx H') as H (m ds S) (VQ K Q)
def bNames : List Str := ["len", "abs", "all", "sum", "min", "max", "list", "tuple", "dict", "int", "bool", "str", "repr", "sorted", "isinstance", "range", "reversed", "zip", "set"]
structure Good (g : Cfg) (k F : Nat) (X : Cx) (W : WX) : Prop where
  calm : X.calm = true
  nd : X.N.Nodup
  room : Room k X.A
  grd : X.A.guards = some []
  takes : Takes X W
  own : ∀ f fn, g.T.lookup f = some fn → ∃ a fd ps, X.mg f = some (.ref a) ∧ PySem.W.keepIn X.K (.ref a) = true ∧ Binds X.K fd ps [] ∧ FnG X.prog X.w X.K X.mg X.base (L2.CX X.prog X.w) k a fd ps (spD X.K fn.np (call g.T F k f))
  blt : ∀ x, x ∈ bNames → X.mg x = none
  glb : ∀ x d, g.G.lookup x = some d → ∃ u v, X.mg x = some u ∧ RelV v u ∧ ∀ as H, RepV X.K as H d v
theorem Good.u65 {g : Cfg} {k F : Nat} {X : Cx} {W : WX} (G : Good g k F X W) : X.A.units + 65 < cLine := by
  have := G.room.un
  omega

section
variable {K : PySem.W.Frag} {W : WX} {σ : L2.St} {H : Hp}
/-- a part is evaluated, then the rest -/
theorem tE_then {m : Env → Store → R D} {β : Type} {f : D → Store → R β} {ρ : Env} {S : Store} {as : List Addr} {Qd : β → Store → List Addr → Hp → Prop} {Q' : VK} (rel : RelS K as H S) (env : EnvR K as H ρ σ) (h : Post K (EXW K W σ) as H ((m ρ S).bind f) Qd)
    (k : ∀ v H1 d S1 as1, RelS K as1 H1 S1 → EnvR K as1 H1 ρ σ → (∀ d v, RepV K as H d v → RepV K as1 H1 d v) → RepV K as1 H1 d v → m ρ S = .ok d S1 → Post K (EXW K W σ) as1 H1 (f d S1) Qd → Q' v H1) : tE K W m σ H Q' := by
  refine ⟨ρ, S, as, rel, env, ?_⟩
  cases e : m ρ S with
  | ok d S1 =>
    rw [e] at h
    exact fun as1 H1 x r v hv => k v H1 d S1 as1 r (x.env rel env) (fun d v q => x.repV rel d v q) hv e (h.base x)
  | ex c fs S1 => rw [e] at h; exact h
  | no => rw [e] at h; exact h
theorem tA_then {m : Env → Store → R (List D)} {β : Type} {f : List D → Store → R β} {ρ : Env} {S : Store} {as : List Addr} {Qd : β → Store → List Addr → Hp → Prop} {Q' : List V → Hp → Prop} (rel : RelS K as H S) (env : EnvR K as H ρ σ) (h : Post K (EXW K W σ) as H ((m ρ S).bind f) Qd)
    (k : ∀ vs H1 ds S1 as1, RelS K as1 H1 S1 → EnvR K as1 H1 ρ σ → (∀ d v, RepV K as H d v → RepV K as1 H1 d v) → RepVs K as1 H1 ds vs → m ρ S = .ok ds S1 → Post K (EXW K W σ) as1 H1 (f ds S1) Qd → Q' vs H1) : tAs K W m σ H Q' := by
  refine ⟨ρ, S, as, rel, env, ?_⟩
  cases e : m ρ S with
  | ok d S1 =>
    rw [e] at h
    exact fun as1 H1 x r v hv => k v H1 d S1 as1 r (x.env rel env) (fun d v q => x.repV rel d v q) hv e (h.base x)
  | ex c fs S1 => rw [e] at h; exact h
  | no => rw [e] at h; exact h
theorem tO_then {m : Env → Store → R (Option Int)} {β : Type} {f : Option Int → Store → R β} {ρ : Env} {S : Store} {as : List Addr} {Qd : β → Store → List Addr → Hp → Prop} {Q' : Option Int → Hp → Prop} (rel : RelS K as H S) (env : EnvR K as H ρ σ) (h : Post K (EXW K W σ) as H ((m ρ S).bind f) Qd)
    (k : ∀ o H1 S1 as1, RelS K as1 H1 S1 → EnvR K as1 H1 ρ σ → (∀ d v, RepV K as H d v → RepV K as1 H1 d v) → Post K (EXW K W σ) as1 H1 (f o S1) Qd → Q' o H1) : tOp1 K W m σ H Q' := by
  refine ⟨ρ, S, as, rel, env, ?_⟩
  cases e : m ρ S with
  | ok d S1 =>
    rw [e] at h
    exact fun as1 H1 x r => k d H1 S1 as1 r (x.env rel env) (fun d v q => x.repV rel d v q) (h.base x)
  | ex c fs S1 => rw [e] at h; exact h
  | no => rw [e] at h; exact h
theorem tT_then {m : Env → Store → R D} {β : Type} {f : Bool → Store → R β} {ρ : Env} {S : Store} {as : List Addr} {Qd : β → Store → List Addr → Hp → Prop} {Q' : Bool → Hp → Prop} (rel : RelS K as H S) (env : EnvR K as H ρ σ) (h : Post K (EXW K W σ) as H ((m ρ S).bind fun x S1 => isB x S1 fun b => f b S1) Qd)
    (k : ∀ b H1 S1 as1, RelS K as1 H1 S1 → EnvR K as1 H1 ρ σ → (∀ d v, RepV K as H d v → RepV K as1 H1 d v) → Post K (EXW K W σ) as1 H1 (f b S1) Qd → Q' b H1) : tT K W m σ H Q' := by
  refine ⟨ρ, S, as, rel, env, ?_⟩
  cases e : m ρ S with
  | ok d S1 =>
    rw [e] at h
    cases d with
    | bl b => exact fun as1 H1 x r => ⟨b, rfl, k b H1 S1 as1 r (x.env rel env) (fun d v q => x.repV rel d v q) (h.base x)⟩
    | _ => exact h.elim
  | ex c fs S1 => rw [e] at h; exact h
  | no => rw [e] at h; exact h
theorem repVs_cons {as : List Addr} {d : D} {ds : List D} {v : V} {vs : List V} (h : RepV K as H d v) (g : RepVs K as H ds vs) : RepVs K as H (d :: ds) (v :: vs) := by
  simp only [RepVs]
  exact ⟨v, vs, rfl, h, g⟩
end

section
variable {X : Cx} {W : WX} {e a b c : Expr} {pos : Pos} {ma mb mc : Env → Store → R D}
/-! ### tests from values -/
theorem pt_of (h : PE X e (tE X.K W ma)) (he : ∀ whole, isTrue e X.env whole = (do let v ← whole; standAt e.pos; holding [v] (truthy v))) : PT X e (tT X.K W ma) := by
  refine PTwk (pt_val h he) fun σ H Q ⟨ρ, S, as, rel, env, q⟩ => ?_
  refine ⟨ρ, S, as, rel, env, q.imp fun d S' as' H' _ _ z v hv => ?_⟩
  obtain ⟨b, rfl, z⟩ := z
  simp only [RepV] at hv
  exact ⟨b, hv, z⟩

/-! ### names, constants -/
theorem se_var {i : Nat} {x : Str} (hN : X.N[i]? = some x) (hv : Vis X.env.scope x) (hd : (x == ("__debug__" : Str)) = false) (hcd : (x == ("__classdict__" : Str)) = false) :
    PE X (.Name x pos) (tE X.K W fun ρ S => match ρ[i]? with | some (some d) => .ok d S | _ => .no) := by
  refine PEwk (pe_var hN hv hd hcd) fun σ H Q ⟨ρ, S, as, rel, env, q⟩ => ?_
  simp only at q
  split at q
  · rename_i d e
    obtain ⟨v, e1, e2⟩ := env.2 i d e
    exact ⟨v, e1, q.here rel v e2⟩
  · exact q.elim
theorem se_glb {g : Cfg} {k F : Nat} {x : Str} {d : D} (G : Good g k F X W) (hg : Gl X x) (hd : (x == ("__debug__" : Str)) = false) (hl : g.G.lookup x = some d) : PE X (.Name x pos) (tE X.K W fun _ S => .ok d S) := by
  obtain ⟨u, v, hm, r, hv⟩ := G.glb x d hl
  exact PEwk (pe_glob hg hm r hd) fun σ H Q ⟨ρ, S, as, rel, env, q⟩ => q.here rel v (hv as H)
theorem se_int {i : Int} {j : Nat} : PE X (.Constant (.int i) j pos) (tE X.K W fun _ S => .ok (.int i) S) := PEwk pe_int fun σ H Q ⟨ρ, S, as, rel, env, q⟩ => q.here rel _ (by simp only [RepV])
theorem se_bl {i : Bool} {j : Nat} : PE X (.Constant (.bool i) j pos) (tE X.K W fun _ S => .ok (.bl i) S) := PEwk pe_bl fun σ H Q ⟨ρ, S, as, rel, env, q⟩ => q.here rel _ (by simp only [RepV])
theorem se_non {j : Nat} : PE X (.Constant .none j pos) (tE X.K W fun _ S => .ok .non S) := PEwk pe_non fun σ H Q ⟨ρ, S, as, rel, env, q⟩ => q.here rel _ (by simp only [RepV])
theorem se_str {i : Str} {j : Nat} (h : PyData.strOk i = true) : PE X (.Constant (.str i) j pos) (tE X.K W fun _ S => .ok (.str i) S) := PEwk pe_str fun σ H Q ⟨ρ, S, as, rel, env, q⟩ => q.here rel _ (by simp only [RepV]; exact ⟨trivial, h⟩)

/-! ### operators -/
theorem se_bin {op : Operator} (ha : PE X a (tE X.K W ma)) (hb : PE X b (tE X.K W mb)) : PE X (.BinOp a op b pos) (tE X.K W fun ρ S => (ma ρ S).bind fun x S1 => (mb ρ S1).bind fun y S2 => binop op x y S2) := by
  refine PEwk (pe_op (binop_ok op) ha hb) fun σ H Q ⟨ρ, S, as, rel, env, q⟩ => ?_
  refine tE_then rel env q fun x H1 dx S1 as1 rel1 env1 up1 hx _ q1 => tE_then rel1 env1 q1 fun y H2 dy S2 as2 rel2 env2 up2 hy _ q2 => ?_
  exact ⟨_, as2, S2, dx, dy, rel2, up2 _ _ hx, hy, q2⟩
theorem se_cmp {op : CmpOp} (hu : X.A.units + 65 < cLine) (ha : PE X a (tE X.K W ma)) (hb : PE X b (tE X.K W mb)) (hm : behindInMarks op b = false) : PE X (.Compare a [op] [b] pos) (tE X.K W fun ρ S => (ma ρ S).bind fun x S1 => (mb ρ S1).bind fun y S2 => cmpop op x y S2) := by
  refine PEwk (pe_cmpR (cmpop_ok hu op) ha hb hm) fun σ H Q ⟨ρ, S, as, rel, env, q⟩ => ?_
  refine tE_then rel env q fun x H1 dx S1 as1 rel1 env1 up1 hx _ q1 => tE_then rel1 env1 q1 fun y H2 dy S2 as2 rel2 env2 up2 hy _ q2 => ?_
  exact ⟨_, as2, S2, dx, dy, rel2, up2 _ _ hx, hy, q2⟩
theorem st_cmp {op : CmpOp} (hu : X.A.units + 65 < cLine) (ha : PE X a (tE X.K W ma)) (hb : PE X b (tE X.K W mb)) (hm : behindInMarks op b = false) : PT X (.Compare a [op] [b] pos) (tT X.K W fun ρ S => (ma ρ S).bind fun x S1 => (mb ρ S1).bind fun y S2 => cmpop op x y S2) := by
  refine PTwk (pt_cmpR (cmpop_ok hu op) ha hb hm) fun σ H Q ⟨ρ, S, as, rel, env, q⟩ => ?_
  refine tE_then rel env q fun x H1 dx S1 as1 rel1 env1 up1 hx _ q1 => tE_then rel1 env1 q1 fun y H2 dy S2 as2 rel2 env2 up2 hy _ q2 => ?_
  refine ⟨_, as2, S2, dx, dy, rel2, up2 _ _ hx, hy, q2.imp fun d S' as' H' _ _ z v hv => ?_⟩
  obtain ⟨b, rfl, z⟩ := z
  simp only [RepV] at hv
  exact ⟨b, hv, z⟩
theorem se_chn {o p : CmpOp} (hu : X.A.units + 65 < cLine) (ha : PE X a (tE X.K W ma)) (hb : PE X b (tE X.K W mb)) (hc : PE X c (tE X.K W mc)) (hm : lastMarks [o, p] [b, c] = false) :
    PE X (.Compare a [o, p] [b, c] pos) (tE X.K W fun ρ S => (ma ρ S).bind fun x S1 => (mb ρ S1).bind fun y S2 => (cmpop o x y S2).bind fun t S3 => isB t S3 fun k => if k = true then (mc ρ S3).bind fun z S4 => cmpop p y z S4 else .ok (.bl false) S3) := by
  refine PEwk (pe_chain (cmpop_ok hu o) (cmpop_ok hu p) ha hb hc hm) fun σ H Q ⟨ρ, S, as, rel, env, q⟩ => ?_
  refine tE_then rel env q fun x H1 dx S1 as1 rel1 env1 up1 hx _ q1 => tE_then rel1 env1 q1 fun y H2 dy S2 as2 rel2 env2 up2 hy _ q2 => ?_
  refine ⟨_, as2, S2, dx, dy, rel2, up2 _ _ hx, hy, q2.bind.imp fun t S3 as3 H3 x3 rel3 q3 v hv => ?_⟩
  cases t with
  | bl k =>
    simp only [RepV] at hv
    refine ⟨k, hv, ?_⟩
    simp only [isB] at q3
    cases k with
    | true =>
      simp only [if_true] at q3 ⊢
      refine tE_then rel3 (x3.env rel2 env2) q3 fun z H4 dz S4 as4 rel4 env4 up4 hz _ q4 => ?_
      exact ⟨_, as4, S4, dy, dz, rel4, up4 _ _ (x3.repV rel2 _ _ hy), hz, q4⟩
    | false =>
      simp only [Bool.false_eq_true, if_false] at q3 ⊢
      exact q3.here rel3 _ (by simp only [RepV])
  | _ => exact q3.elim
theorem st_chn {o p : CmpOp} (hu : X.A.units + 65 < cLine) (ha : PE X a (tE X.K W ma)) (hb : PE X b (tE X.K W mb)) (hc : PE X c (tE X.K W mc)) (hm : lastMarks [o, p] [b, c] = false) :
    PT X (.Compare a [o, p] [b, c] pos) (tT X.K W fun ρ S => (ma ρ S).bind fun x S1 => (mb ρ S1).bind fun y S2 => (cmpop o x y S2).bind fun t S3 => isB t S3 fun k => if k = true then (mc ρ S3).bind fun z S4 => cmpop p y z S4 else .ok (.bl false) S3) := by
  refine PTwk (pt_chain (cmpop_ok hu o) (cmpop_ok hu p) ha hb hc hm) fun σ H Q ⟨ρ, S, as, rel, env, q⟩ => ?_
  refine tE_then rel env q fun x H1 dx S1 as1 rel1 env1 up1 hx _ q1 => tE_then rel1 env1 q1 fun y H2 dy S2 as2 rel2 env2 up2 hy _ q2 => ?_
  refine ⟨_, as2, S2, dx, dy, rel2, up2 _ _ hx, hy, q2.bind.imp fun t S3 as3 H3 x3 rel3 q3 v hv => ?_⟩
  cases t with
  | bl k =>
    simp only [RepV] at hv
    refine ⟨k, hv, ?_⟩
    simp only [isB] at q3
    cases k with
    | true =>
      simp only [if_true] at q3 ⊢
      refine tE_then rel3 (x3.env rel2 env2) q3 fun z H4 dz S4 as4 rel4 env4 up4 hz _ q4 => ?_
      refine ⟨_, as4, S4, dy, dz, rel4, up4 _ _ (x3.repV rel2 _ _ hy), hz, q4.imp fun d S' as' H' _ _ z v hv => ?_⟩
      obtain ⟨b, rfl, z⟩ := z
      simp only [RepV] at hv
      exact ⟨b, hv, z⟩
    | false =>
      simp only [Bool.false_eq_true, if_false] at q3 ⊢
      obtain ⟨b, e, z⟩ := q3.here rel3
      exact ⟨b, by cases e; rfl, z⟩
  | _ => exact q3.elim
theorem se_neg (ha : PE X a (tE X.K W ma)) : PE X (.UnaryOp .USub a pos) (tE X.K W fun ρ S => (ma ρ S).bind fun x S1 => match x with | .int i => .ok (.int (-i)) S1 | _ => .no) := by
  refine PEwk (pe_un un_neg ha) fun σ H Q ⟨ρ, S, as, rel, env, q⟩ => ?_
  refine tE_then rel env q fun x H1 dx S1 as1 rel1 env1 up1 hx _ q1 => ?_
  cases dx with
  | int i =>
    simp only [RepV] at hx
    exact ⟨i, hx, q1.here rel1 _ (by simp only [RepV])⟩
  | _ => exact q1.elim
theorem se_not (ha : PE X a (tE X.K W ma)) : PE X (.UnaryOp .Not a pos) (tE X.K W fun ρ S => (ma ρ S).bind fun x S1 => isB x S1 fun b => .ok (.bl (!b)) S1) := by
  refine PEwk (pe_not ha) fun σ H Q ⟨ρ, S, as, rel, env, q⟩ => ?_
  refine tE_then rel env q fun x H1 dx S1 as1 rel1 env1 up1 hx _ q1 => ?_
  cases dx with
  | bl i =>
    simp only [RepV] at hx
    exact ⟨i, hx, q1.here rel1 _ (by simp only [RepV])⟩
  | _ => exact q1.elim
theorem st_not (ha : PT X a (tT X.K W ma)) : PT X (.UnaryOp .Not a pos) (tT X.K W fun ρ S => (ma ρ S).bind fun x S1 => isB x S1 fun b => .ok (.bl (!b)) S1) := by
  refine PTwk (pt_not ha) fun σ H Q ⟨ρ, S, as, rel, env, q⟩ => ?_
  refine tT_then (f := fun b S1 => R.ok (D.bl (!b)) S1) rel env q fun b H1 S1 as1 rel1 env1 up1 q1 => ?_
  obtain ⟨b', e, z⟩ := q1.here rel1
  cases e
  exact z
theorem se_and {r : List Expr} (ha : PE X a (tE X.K W ma)) (hb : PE X (.BoolOp .And (b :: r) pos) (tE X.K W mb)) : PE X (.BoolOp .And (a :: b :: r) pos) (tE X.K W fun ρ S => (ma ρ S).bind fun x S1 => isB x S1 fun c => if c = true then mb ρ S1 else .ok (.bl false) S1) := by
  refine PEwk (pe_and ha hb) fun σ H Q ⟨ρ, S, as, rel, env, q⟩ => ?_
  refine tE_then rel env q fun x H1 dx S1 as1 rel1 env1 up1 hx _ q1 => ?_
  cases dx with
  | bl i =>
    simp only [RepV] at hx
    refine ⟨i, hx, ?_⟩
    simp only [isB] at q1
    cases i with
    | true => exact ⟨ρ, S1, as1, rel1, env1, q1⟩
    | false => exact q1.here rel1 _ (by simp only [RepV])
  | _ => exact q1.elim
theorem se_or {r : List Expr} (ha : PE X a (tE X.K W ma)) (hb : PE X (.BoolOp .Or (b :: r) pos) (tE X.K W mb)) : PE X (.BoolOp .Or (a :: b :: r) pos) (tE X.K W fun ρ S => (ma ρ S).bind fun x S1 => isB x S1 fun c => if c = true then .ok (.bl true) S1 else mb ρ S1) := by
  refine PEwk (pe_or ha hb) fun σ H Q ⟨ρ, S, as, rel, env, q⟩ => ?_
  refine tE_then rel env q fun x H1 dx S1 as1 rel1 env1 up1 hx _ q1 => ?_
  cases dx with
  | bl i =>
    simp only [RepV] at hx
    refine ⟨i, hx, ?_⟩
    simp only [isB] at q1
    cases i with
    | false => exact ⟨ρ, S1, as1, rel1, env1, q1⟩
    | true => exact q1.here rel1 _ (by simp only [RepV])
  | _ => exact q1.elim
theorem st_and {r : List Expr} (ha : PT X a (tT X.K W ma)) (hb : PW X (.BoolOp .And (b :: r) pos) (tT X.K W mb)) : PW X (.BoolOp .And (a :: b :: r) pos) (tT X.K W fun ρ S => (ma ρ S).bind fun x S1 => isB x S1 fun c => if c = true then mb ρ S1 else .ok (.bl false) S1) := by
  refine PWwk (pw_and ha hb) fun σ H Q ⟨ρ, S, as, rel, env, q⟩ => ?_
  refine tT_then (f := fun c S1 => if c = true then mb ρ S1 else .ok (.bl false) S1) rel env q fun b H1 S1 as1 rel1 env1 up1 q1 => ?_
  cases b with
  | true => exact ⟨ρ, S1, as1, rel1, env1, q1⟩
  | false =>
    obtain ⟨b', e, z⟩ := Post.here (a := D.bl false) q1 rel1
    cases e
    exact z
theorem st_or {r : List Expr} (ha : PT X a (tT X.K W ma)) (hb : PW X (.BoolOp .Or (b :: r) pos) (tT X.K W mb)) : PW X (.BoolOp .Or (a :: b :: r) pos) (tT X.K W fun ρ S => (ma ρ S).bind fun x S1 => isB x S1 fun c => if c = true then .ok (.bl true) S1 else mb ρ S1) := by
  refine PWwk (pw_or ha hb) fun σ H Q ⟨ρ, S, as, rel, env, q⟩ => ?_
  refine tT_then (f := fun c S1 => if c = true then .ok (.bl true) S1 else mb ρ S1) rel env q fun b H1 S1 as1 rel1 env1 up1 q1 => ?_
  cases b with
  | false => exact ⟨ρ, S1, as1, rel1, env1, q1⟩
  | true =>
    obtain ⟨b', e, z⟩ := Post.here (a := D.bl true) q1 rel1
    cases e
    exact z
theorem se_ite (hc : PT X c (tT X.K W mc)) (ha : PE X a (tE X.K W ma)) (hb : PE X b (tE X.K W mb)) : PE X (.IfExp c a b pos) (tE X.K W fun ρ S => (mc ρ S).bind fun x S1 => isB x S1 fun k => if k = true then ma ρ S1 else mb ρ S1) := by
  refine PEwk (pe_ifExp hc ha hb) fun σ H Q ⟨ρ, S, as, rel, env, q⟩ => ?_
  refine tT_then (f := fun k S1 => if k = true then ma ρ S1 else mb ρ S1) rel env q fun k H1 S1 as1 rel1 env1 up1 q1 => ?_
  cases k with
  | true => exact ⟨ρ, S1, as1, rel1, env1, q1⟩
  | false => exact ⟨ρ, S1, as1, rel1, env1, q1⟩

/-! ### arguments, displays -/
theorem sa_nil : PA X [] (tAs X.K W fun _ S => .ok [] S) := PAwk pa_nil fun σ H Q ⟨ρ, S, as, rel, env, q⟩ => q.here rel _ (by simp only [RepVs])
theorem sa_cons {es : List Expr} {ms : Env → Store → R (List D)} (ha : PE X e (tE X.K W ma)) (hr : PA X es (tAs X.K W ms)) (hs : starEach (e :: es) X.env = (false, eval e X.env) :: starEach es X.env) :
    PA X (e :: es) (tAs X.K W fun ρ S => (ma ρ S).bind fun x S1 => (ms ρ S1).bind fun xs S2 => .ok (x :: xs) S2) := by
  refine PAwk (pa_cons ha hr hs) fun σ H Q ⟨ρ, S, as, rel, env, q⟩ => ?_
  refine tE_then rel env q fun x H1 dx S1 as1 rel1 env1 up1 hx _ q1 => tA_then rel1 env1 q1 fun xs H2 ds S2 as2 rel2 env2 up2 hxs _ q2 => ?_
  exact q2.here rel2 _ (repVs_cons (up2 _ _ hx) hxs)
theorem so_none : PO X none (tOp1 X.K W fun _ S => .ok none S) := POwk po_none fun σ H Q ⟨ρ, S, as, rel, env, q⟩ => q.here rel
theorem so_some (ha : PE X e (tE X.K W ma)) : PO X (some e) (tOp1 X.K W fun ρ S => (ma ρ S).bind fun x S1 => match x with | .int i => .ok (some i) S1 | _ => .no) := by
  refine POwk (po_some ha) fun σ H Q ⟨ρ, S, as, rel, env, q⟩ => ?_
  refine tE_then rel env q fun x H1 dx S1 as1 rel1 env1 up1 hx _ q1 => ?_
  cases dx with
  | int i =>
    simp only [RepV] at hx
    exact ⟨i, hx, q1.here rel1⟩
  | _ => exact q1.elim
theorem se_tup {es : List Expr} {j : Nat} {ms : Env → Store → R (List D)} (h : PA X es (tAs X.K W ms)) : PE X (.Tuple es j pos) (tE X.K W fun ρ S => (ms ρ S).bind fun ds S1 => if ds.length ≤ sizeLine then .ok (.tup ds) S1 else .no) := by
  refine PEwk (pe_tup h) fun σ H Q ⟨ρ, S, as, rel, env, q⟩ => ?_
  refine tA_then rel env q fun xs H1 ds S1 as1 rel1 env1 up1 hxs _ q1 => ?_
  split at q1
  · rename_i hl
    exact ⟨by rw [hxs.length]; exact hl, fun p hp => Post.tup q1 rel1 hp hl hxs⟩
  · exact q1.elim
theorem se_lst {es : List Expr} {ms : Env → Store → R (List D)} (h : PA X es (tAs X.K W ms)) : PE X (.List es pos) (tE X.K W fun ρ S => (ms ρ S).bind fun ds S1 => if ds.length ≤ sizeLine then alloc (.lst ds) S1 else .no) := by
  refine PEwk (pe_lst h) fun σ H Q ⟨ρ, S, as, rel, env, q⟩ => ?_
  refine tA_then rel env q fun xs H1 ds S1 as1 rel1 env1 up1 hxs _ q1 => ?_
  split at q1
  · rename_i hl
    exact ⟨by rw [hxs.length]; exact hl, fun p hp => Post.lst q1 rel1 hp hl hxs⟩
  · exact q1.elim
theorem se_dic0 : PE X (.Dict [] [] pos) (tE X.K W fun _ S => alloc (.dic false []) S) :=
  PEwk pe_dnewK fun σ H Q ⟨ρ, S, as, rel, env, q⟩ p hp => Post.dic (ks := []) q rel hp (Nat.zero_le _) rfl

/-! ### places, slices -/
theorem se_sub (hu : X.A.units + 65 < cLine) (ha : PE X a (tE X.K W ma)) (hb : PE X b (tE X.K W mb)) (hs : PlainIx b) : PE X (.Subscript a b pos) (tE X.K W fun ρ S => (ma ρ S).bind fun x S1 => (mb ρ S1).bind fun y S2 => subD x y S2) := by
  refine PEwk (pe_ix (subD_ok hu) ha hb hs) fun σ H Q ⟨ρ, S, as, rel, env, q⟩ => ?_
  refine tE_then rel env q fun x H1 dx S1 as1 rel1 env1 up1 hx _ q1 => tE_then rel1 env1 q1 fun y H2 dy S2 as2 rel2 env2 up2 hy _ q2 => ?_
  exact ⟨_, as2, S2, dx, dy, rel2, up2 _ _ hx, hy, q2⟩
theorem se_slc {lo hi : Option Expr} {p2 : Pos} {ml mh : Env → Store → R (Option Int)} (ha : PE X a (tE X.K W ma)) (hl : PO X lo (tOp1 X.K W ml)) (hh : PO X hi (tOp1 X.K W mh)) :
    PE X (.Subscript a (.Slice lo hi none p2) pos) (tE X.K W fun ρ S => (ma ρ S).bind fun x S1 => (ml ρ S1).bind fun l S2 => (mh ρ S2).bind fun u S3 => slcD x l u S3) := by
  refine PEwk (pe_slice slcD_ok ha hl hh) fun σ H Q ⟨ρ, S, as, rel, env, q⟩ => ?_
  refine tE_then rel env q fun x H1 dx S1 as1 rel1 env1 up1 hx _ q1 => tO_then rel1 env1 q1 fun l H2 S2 as2 rel2 env2 up2 q2 => tO_then rel2 env2 q2 fun u H3 S3 as3 rel3 env3 up3 q3 => ?_
  exact ⟨_, as3, S3, dx, rel3, up3 _ _ (up2 _ _ hx), q3⟩

theorem se_rvs {k : Nat} {p1 p2 p3 : Pos} (ha : PE X a (tE X.K W ma)) : PE X (.Subscript a (.Slice none none (some (.UnaryOp .USub (.Constant (.int 1) k p1) p2)) p3) pos) (tE X.K W fun ρ S => (ma ρ S).bind fun x S1 => rvD x S1) := by
  refine PEwk (PEor (pe_rvT ha) (pe_revL ha)) fun σ H Q ⟨ρ, S, as, rel, env, q⟩ => ?_
  replace q : Post X.K (EXW X.K W σ) as H ((ma ρ S).bind fun x S1 => rvD x S1) (VQ X.K Q) := q
  cases em : ma ρ S with
  | no => rw [em] at q; exact q.elim
  | ex c fs S1 => rw [em] at q; exact .inl ⟨ρ, S, as, rel, env, by rw [em]; exact q⟩
  | ok d S1 =>
    have q0 := q
    rw [em] at q
    simp only [R.bind_ok] at q
    cases d with
    | tup ds =>
      refine .inl (tE_then rel env q0 fun x H1 dx S2 as1 rel1 env1 up1 hx e q1 => ?_)
      rw [em] at e
      cases e
      simp only [RepV] at hx
      obtain ⟨a, vs, rfl, hq, l, t⟩ := hx
      exact ⟨a, vs, rfl, hq, fun p hp => Post.tup q1 rel1 hp (by rw [List.length_reverse]; exact l) t.reverse⟩
    | fzl ds =>
      refine .inr (tE_then rel env q0 fun x H1 dx S2 as1 rel1 env1 up1 hx e q1 => ?_)
      rw [em] at e
      cases e
      simp only [RepV] at hx
      obtain ⟨a, vs, rfl, hq, l, t⟩ := hx
      exact ⟨a, vs, rfl, FzL.sq _ hq, fun p hp => Post.lst q1 rel1 hp (by rw [List.length_reverse]; exact l) t.reverse⟩
    | ref r =>
      refine .inr (tE_then rel env q0 fun x H1 dx S2 as1 rel1 env1 up1 hx e q1 => ?_)
      rw [em] at e
      cases e
      simp only [RepV] at hx
      obtain ⟨a, rfl, ha⟩ := hx
      simp only [rvD] at q1
      split at q1
      · rename_i ds e
        obtain ⟨vs, z1, l, t⟩ := rel1.cell _ _ _ e ha
        exact ⟨a, vs, rfl, SqL.of z1, fun p hp => Post.lst q1 rel1 hp (by rw [List.length_reverse]; exact l) t.reverse⟩
      · exact q1.elim
    | _ => exact q.elim
/-! ### calls -/
theorem se_blt {es : List Expr} {x : Str} {p : Pos} {f : B} {ms : Env → Store → R (List D)} (hc : X.calm = true) (hgd : X.A.guards = some []) (hu : X.A.units + 65 < cLine) (hg : Gl X x) (hm : X.mg x = none) (hv : bootBuiltins x = some (bval f)) (ha : PA X (e :: es) (tAs X.K W ms)) (hn : x ≠ "__name__") (hdb : (x == ("__debug__" : Str)) = false)
    (he : starEach (e :: es) X.env = (false, eval e X.env) :: starEach es X.env) (hpl : (backTo pos (starEach es X.env)).any (·.1) = false) : PE X (.Call (.Name x p) (e :: es) [] pos) (tE X.K W fun ρ S => (ms ρ S).bind fun ds S1 => bi f ds S1) := by
  have go : PE X (.Call (.Name x p) (e :: es) [] pos) (tCB (rDn X.K (bi f)) (tAs X.K W ms)) := by
    have hb := bi_ok hc hgd hu f
    cases f <;> first | exact pe_callB hb hg hm hv ha hn hdb he hpl | exact pe_callTy hb hg hm hv ha hn hdb he hpl
  refine PEwk go fun σ H Q ⟨ρ, S, as, rel, env, q⟩ => ?_
  exact tA_then rel env q fun xs H1 ds S1 as1 rel1 env1 up1 hxs _ q1 => ⟨_, as1, S1, ds, rel1, hxs, q1⟩
theorem call_np {g : Cfg} {k F : Nat} {f : Str} {fn : Fn} {ds : List D} {S : Store} {EX : XW} {as : List Addr} {H : Hp} {Q : D → Store → List Addr → Hp → Prop} {K : PySem.W.Frag} (hl : g.T.lookup f = some fn) (h : Post K EX as H (call g.T F k f ds S) Q) : ds.length = fn.np := by
  cases k with
  | zero => exact h.elim
  | succ k =>
    unfold call at h
    simp only [hl] at h
    split at h
    · rename_i z; exact z.1
    · exact h.elim
theorem se_cal {g : Cfg} {k F : Nat} {es : List Expr} {x : Str} {p : Pos} {fn : Fn} {ms : Env → Store → R (List D)} (G : Good g k F X W) (hg : Gl X x) (hl : g.T.lookup x = some fn) (ha : PA X (e :: es) (tAs X.K W ms)) (hdb : (x == ("__debug__" : Str)) = false)
    (he : starEach (e :: es) X.env = (false, eval e X.env) :: starEach es X.env) (hpl : (backTo pos (starEach es X.env)).any (·.1) = false) : PE X (.Call (.Name x p) (e :: es) [] pos) (tE X.K W fun ρ S => (ms ρ S).bind fun ds S1 => call g.T F k x ds S1) := by
  obtain ⟨af, fd, ps, hm, hk, hb, FF⟩ := G.own x fn hl
  refine PEwk (pe_callG (E := WE W) FF G.grd G.room hg hm hk hb (passAt G.takes) ha hdb he hpl) fun σ H Q ⟨ρ, S, as, rel, env, q⟩ => ?_
  refine tA_then rel env q fun xs H1 ds S1 as1 rel1 env1 up1 hxs _ q1 => ?_
  exact ⟨as1, S1, ds, rel1, hxs, call_np hl q1, q1⟩
end
end Pv
set_option Elab.async false
set_option linter.all false
set_option maxRecDepth 100000
set_option maxHeartbeats 1000000
/-! what is walked; comprehensions -/
namespace Pv
open PySem PySem.Spec PyProof.Rows L2

/-! ### data under a heap that keeps tuples -/
structure Mon (K : PySem.W.Frag) (H H' : Hp) : Prop where
  t : ∀ a xs, SqT K H a xs → SqT K H' a xs
  f : ∀ a xs, FzL K H a xs → FzL K H' a xs
section
variable {K : PySem.W.Frag} {as : List Addr} {H H' : Hp} {S : Store}
mutual
theorem Mon.repV (x : Mon K H H') : ∀ (d : D) (v : V), RepV K as H d v → RepV K as H' d v
  | .non, _, h => by simp only [RepV] at h ⊢; exact h
  | .bl _, _, h => by simp only [RepV] at h ⊢; exact h
  | .int _, _, h => by simp only [RepV] at h ⊢; exact h
  | .str _, _, h => by simp only [RepV] at h ⊢; exact h
  | .tup ds, _, h => by
    simp only [RepV] at h ⊢
    obtain ⟨a, vs, e, q, l, t⟩ := h
    exact ⟨a, vs, e, x.t _ _ q, l, Mon.repVs x ds vs t⟩
  | .fzl ds, _, h => by
    simp only [RepV] at h ⊢
    obtain ⟨a, vs, e, q, l, t⟩ := h
    exact ⟨a, vs, e, x.f _ _ q, l, Mon.repVs x ds vs t⟩
  | .ref i, _, h => by
    simp only [RepV] at h ⊢
    exact h
theorem Mon.repVs (x : Mon K H H') : ∀ (ds : List D) (vs : List V), RepVs K as H ds vs → RepVs K as H' ds vs
  | [], _, h => by simp only [RepVs] at h ⊢; exact h
  | d :: ds, _, h => by
    simp only [RepVs] at h ⊢
    obtain ⟨v, q, e, h1, h2⟩ := h
    exact ⟨v, q, e, Mon.repV x d v h1, Mon.repVs x ds q h2⟩
end
theorem Mon.repK (x : Mon K H H') : ∀ (kvs : List (Key × D)) (ks : List (Key × V)), RepK K as H kvs ks → RepK K as H' kvs ks
  | [], _, h => h
  | (k, d) :: kvs, _, h => by
    obtain ⟨v, q, e, k1, h1, h2⟩ := h
    exact ⟨v, q, e, k1, x.repV d v h1, Mon.repK x kvs q h2⟩
theorem Mon.cellO (x : Mon K H H') {a : Addr} (ha : H' a = H a) {c : Cell} (h : CellR K as H a c) : CellR K as H' a c := by
  cases c with
  | lst ds => obtain ⟨vs, e, l, t⟩ := h; exact ⟨vs, ha.trans e, l, x.repVs _ _ t⟩
  | dic b kvs =>
    cases b with
    | false => obtain ⟨vs, e, l, t⟩ := h; exact ⟨vs, ha.trans e, l, x.repK _ _ t⟩
    | true => obtain ⟨o, vs, e, l, t⟩ := h; exact ⟨o, vs, ha.trans e, l, x.repK _ _ t⟩
  | ins c fs => exact h.elim
theorem Mon.env (x : Mon K H H') {ρ : Env} {σ : L2.St} (h : EnvR K as H ρ σ) : EnvR K as H' ρ σ :=
  ⟨h.1, fun i d e => let ⟨v, e1, e2⟩ := h.2 i d e; ⟨v, e1, x.repV d v e2⟩⟩
/-- a list that is nobody's cell is written -/
theorem Mon.out {p : Addr} {us vs : List V} (h : H p = some (.lst us)) : Mon K H (upd H p (.lst vs)) := by
  refine ⟨fun a xs q => ?_, fun a xs q => ?_⟩
  · rcases q with (q | ⟨o, q⟩) | q
    · exact .inl (.inl (by rw [upd_ne fun e => by rw [e, h] at q; cases q]; exact q))
    · exact .inl (.inr ⟨o, by rw [upd_ne fun e => by rw [e, h] at q; cases q]; exact q⟩)
    · exact .inr q
  · rcases q with ⟨o, q⟩ | q
    · exact .inl ⟨o, by rw [upd_ne fun e => by rw [e, h] at q; cases q]; exact q⟩
    · exact .inr q
theorem RelS.out (r : RelS K as H S) {p : Addr} {us vs : List V} (h : H p = some (.lst us)) (n : p ∉ as) : RelS K as (upd H p (.lst vs)) S :=
  ⟨r.len, r.nd, fun i c a e q => (Mon.out h).cellO (upd_ne fun z => n (z ▸ List.mem_of_getElem? q)) (r.cell i c a e q)⟩
theorem Ext.out {as1 : List Addr} {H1 : Hp} (x : Ext as1 H1 as H) {p : Addr} {o : HO} (n : H1 p = none) : Ext as1 H1 as (upd H p o) :=
  ⟨x.more, fun a u h k => by rw [upd_ne fun z => by rw [z, n] at h; cases h]; exact x.keep a u h k, x.fresh⟩
theorem Ext.notin {as1 : List Addr} {H1 : Hp} (x : Ext as1 H1 as H) {p : Addr} {o : HO} (h : H1 p = some o) (n : p ∉ as1) : p ∉ as := fun q => by
  rcases x.fresh p q with z | z
  · exact n z
  · rw [h] at z; cases z
/-- .. becomes a cell -/
theorem RelS.adopt (r : RelS K as H S) {p : Addr} {vs : List V} {ds : List D} (h : H p = some (.lst vs)) (n : p ∉ as) (l : ds.length ≤ sizeLine) (t : RepVs K as H ds vs) : RelS K (as ++ [p]) H (S ++ [.lst ds]) := by
  have x : Ext as H (as ++ [p]) H → True := fun _ => trivial
  have up : ∀ (ds : List D) (vs : List V), RepVs K as H ds vs → RepVs K (as ++ [p]) H ds vs := by
    have e : ∀ {i : Nat} {a : Addr}, as[i]? = some a → (as ++ [p])[i]? = some a := fun {i a} q => by
      rw [List.getElem?_append_left (List.getElem?_eq_some_iff.mp q).1]; exact q
    intro ds vs t
    exact repVs_ref e ds vs t
  have upk : ∀ (kvs : List (Key × D)) (ks : List (Key × V)), RepK K as H kvs ks → RepK K (as ++ [p]) H kvs ks := by
    have e : ∀ {i : Nat} {a : Addr}, as[i]? = some a → (as ++ [p])[i]? = some a := fun {i a} q => by
      rw [List.getElem?_append_left (List.getElem?_eq_some_iff.mp q).1]; exact q
    intro kvs
    induction kvs with
    | nil => intro ks h; exact h
    | cons q r ih =>
      obtain ⟨k, d⟩ := q
      rintro ks ⟨v, q, e1, k1, h1, h2⟩
      exact ⟨v, q, e1, k1, repV_ref e d v h1, ih q h2⟩
  refine ⟨by rw [List.length_append, List.length_append, r.len]; rfl, ?_, fun i c a q z => ?_⟩
  · rw [List.nodup_append]
    refine ⟨r.nd, by simp, fun a ha b hb => ?_⟩
    simp at hb; subst hb
    rintro rfl
    exact n ha
  · by_cases hi : i < S.length
    · rw [List.getElem?_append_left hi] at q
      rw [List.getElem?_append_left (by rw [r.len]; exact hi)] at z
      have g := r.cell i c a q z
      cases c with
      | lst es => obtain ⟨us, e, l, t⟩ := g; exact ⟨us, e, l, up _ _ t⟩
      | dic b kvs =>
        cases b with
        | false => obtain ⟨us, e, l, t⟩ := g; exact ⟨us, e, l, upk _ _ t⟩
        | true => obtain ⟨o, us, e, l, t⟩ := g; exact ⟨o, us, e, l, upk _ _ t⟩
      | ins c fs => exact g.elim
    · have hl := (List.getElem?_eq_some_iff.mp q).1
      rw [List.length_append] at hl
      have e : i = S.length := by simp at hl; omega
      subst e
      simp at q
      rw [← r.len] at z
      simp at z
      subst q; subst z
      exact ⟨vs, h, l, up _ _ t⟩
where
  repV_ref {K : PySem.W.Frag} {as as' : List Addr} {H : Hp} (e : ∀ {i : Nat} {a : Addr}, as[i]? = some a → as'[i]? = some a) : ∀ (d : D) (v : V), RepV K as H d v → RepV K as' H d v
    | .non, _, h => by simp only [RepV] at h ⊢; exact h
    | .bl _, _, h => by simp only [RepV] at h ⊢; exact h
    | .int _, _, h => by simp only [RepV] at h ⊢; exact h
    | .str _, _, h => by simp only [RepV] at h ⊢; exact h
    | .tup ds, _, h => by
      simp only [RepV] at h ⊢
      obtain ⟨a, vs, e1, q, l, t⟩ := h
      exact ⟨a, vs, e1, q, l, repVs_ref e ds vs t⟩
    | .fzl ds, _, h => by
      simp only [RepV] at h ⊢
      obtain ⟨a, vs, e1, q, l, t⟩ := h
      exact ⟨a, vs, e1, q, l, repVs_ref e ds vs t⟩
    | .ref i, _, h => by
      simp only [RepV] at h ⊢
      obtain ⟨a, e1, q⟩ := h
      exact ⟨a, e1, e q⟩
  repVs_ref {K : PySem.W.Frag} {as as' : List Addr} {H : Hp} (e : ∀ {i : Nat} {a : Addr}, as[i]? = some a → as'[i]? = some a) : ∀ (ds : List D) (vs : List V), RepVs K as H ds vs → RepVs K as' H ds vs
    | [], _, h => by simp only [RepVs] at h ⊢; exact h
    | d :: ds, _, h => by
      simp only [RepVs] at h ⊢
      obtain ⟨v, q, e1, h1, h2⟩ := h
      exact ⟨v, q, e1, repV_ref e d v h1, repVs_ref e ds q h2⟩
end

/-! ### what is walked -/
def Walks (K : PySem.W.Frag) (J : It) (xs : List D) (g : Option Nat) (as0 : List Addr) (H0 : Hp) : Prop := ∀ as H S, Ext as0 H0 as H → RelS K as H S → stands g xs S →
  (∀ i, xs.length ≤ i → J.stop i H) ∧ ∀ i d, xs[i]? = some d → J.go i H ∧ ∀ x H', J.yld i H x H' → Ext as H as H' ∧ RelS K as H' S ∧ RepV K as H' d x
def tI (K : PySem.W.Frag) (W : WX) (m : Env → Store → R (List D × Option Nat)) : TI := fun σ H R => ∃ ρ S as, RelS K as H S ∧ EnvR K as H ρ σ ∧ Post K (EXW K W σ) as H (m ρ S) fun p S' as' H' => stands p.2 p.1 S' → ∀ J, Walks K J p.1 p.2 as' H' → R J H'
/-- the parts of an iterable, walked -/
def itm (ik : IK) (ms : Env → Store → R (List D)) : Env → Store → R (List D × Option Nat) := fun ρ S => (ms ρ S).bind fun ds S1 => match iter ik ds S1 with
  | some p => .ok p S1
  | none => .no
section
variable {X : Cx} {W : WX} {tg e : Expr} {ma : Env → Store → R D}
def one1 (m : Env → Store → R D) : Env → Store → R (List D) := fun ρ S => (m ρ S).bind fun x S1 => (R.ok [] S1 : R (List D)).bind fun xs S2 => .ok (x :: xs) S2
theorem walks_seq {K : PySem.W.Frag} {as0 : List Addr} {H0 : Hp} {S0 : Store} (rel : RelS K as0 H0 S0) {a : Addr} {vs : List V} {xs : List D} (hq : SqT K H0 a vs) (t : RepVs K as0 H0 xs vs) : Walks K (Itt K a) xs none as0 H0 := fun as H S x r _ => by
  have hq' := x.sqT rel hq
  have t' := x.repVs rel _ _ t
  refine ⟨fun i hi => ⟨vs, hq', by rw [t'.length]; exact hi⟩, fun i d hd => ?_⟩
  obtain ⟨v, e1, e2⟩ := t'.get i d hd
  refine ⟨⟨vs, v, hq', e1⟩, fun y H' z => ?_⟩
  obtain ⟨rfl, z⟩ := z
  have := z vs hq'
  rw [e1] at this
  cases this
  exact ⟨Ext.refl, r, e2⟩
theorem walks_fzl {K : PySem.W.Frag} {as0 : List Addr} {H0 : Hp} {S0 : Store} (rel : RelS K as0 H0 S0) {a : Addr} {vs : List V} {xs : List D} (hq : FzL K H0 a vs) (t : RepVs K as0 H0 xs vs) : Walks K (Itl K a) xs none as0 H0 := fun as H S x r _ => by
  have hq' := FzL.sq _ (x.fzL rel hq)
  have t' := x.repVs rel _ _ t
  refine ⟨fun i hi => ⟨vs, hq', by rw [t'.length]; exact hi⟩, fun i d hd => ?_⟩
  obtain ⟨v, e1, e2⟩ := t'.get i d hd
  refine ⟨⟨vs, v, hq', e1⟩, fun y H' z => ?_⟩
  obtain ⟨rfl, z⟩ := z
  have := z vs hq'
  rw [e1] at this
  cases this
  exact ⟨Ext.refl, r, e2⟩
theorem walks_lst {K : PySem.W.Frag} {as0 : List Addr} {H0 : Hp} {j : Nat} {a : Addr} {xs : List D} (ha : as0[j]? = some a) : Walks K (Itl K a) xs (some j) as0 H0 := fun as H S x r st => by
  obtain ⟨vs, e, l, t'⟩ := r.cell j _ a st (x.get ha)
  have hq' : SqL K H a vs := SqL.of e
  refine ⟨fun i hi => ⟨vs, hq', by rw [t'.length]; exact hi⟩, fun i d hd => ?_⟩
  obtain ⟨v, e1, e2⟩ := t'.get i d hd
  refine ⟨⟨vs, v, hq', e1⟩, fun y H' z => ?_⟩
  obtain ⟨rfl, z⟩ := z
  have := z vs hq'
  rw [e1] at this
  cases this
  exact ⟨Ext.refl, r, e2⟩
theorem walks_str {K : PySem.W.Frag} {as0 : List Addr} {H0 : Hp} {z : Str} (hz : PyData.strOk z = true) : Walks K (Its z) (z.cps.toList.map sign) none as0 H0 := fun as H S x r st => by
  refine ⟨fun i hi => ?_, fun i d hd => ?_⟩
  · show z.cps.size ≤ i
    simpa using hi
  · rw [List.getElem?_map, Option.map_eq_some_iff] at hd
    obtain ⟨c, hc, rfl⟩ := hd
    refine ⟨show i < z.cps.size by simpa using (List.getElem?_eq_some_iff.mp hc).1, fun y H' q => ?_⟩
    obtain ⟨rfl, c', h1, rfl⟩ := q
    have e : c = c' := by
      have : z.cps.toList[i]? = z.cps[i]? := by simp
      rw [this, h1] at hc
      exact (Option.some.inj hc).symm
    subst e
    refine ⟨Ext.refl, r, ?_⟩
    simp only [sign, RepV]
    refine ⟨trivial, strOk_sub hz fun b hb => ?_⟩
    simp at hb
    subst hb
    exact List.mem_of_getElem? hc
theorem walks_rng {K : PySem.W.Frag} {as0 : List Addr} {H0 : Hp} (lo : Int) (n : Nat) : Walks K (Itr lo n) ((List.range n).map fun (k : Nat) => D.int (lo + k)) none as0 H0 := fun as H S x r st => by
  refine ⟨fun i hi => ?_, fun i d hd => ?_⟩
  · show n ≤ i
    simpa using hi
  · rw [List.getElem?_map, Option.map_eq_some_iff] at hd
    obtain ⟨c, hc, rfl⟩ := hd
    have hi : i < n := by simpa using (List.getElem?_eq_some_iff.mp hc).1
    have e : c = i := by
      rw [List.getElem?_range hi] at hc
      exact (Option.some.inj hc).symm
    subst e
    refine ⟨hi, fun y H' q => ?_⟩
    obtain ⟨rfl, rfl⟩ := q
    exact ⟨Ext.refl, r, by simp only [RepV]⟩
theorem si_plain (ha : PE X e (tE X.K W ma)) : PI X tg e (tI X.K W (itm .plain (one1 ma))) := by
  refine PIwk (PIor (pi_list ha) (PIor (pi_tup ha) (pi_str ha))) fun σ H R ⟨ρ, S, as, rel, env, q⟩ => ?_
  unfold itm one1 at q
  cases e1 : ma ρ S with
  | no => rw [e1] at q; exact q.elim
  | ex c fs S1 =>
    rw [e1] at q
    refine .inl ⟨ρ, S, as, rel, env, ?_⟩
    rw [e1]
    exact q
  | ok d S1 =>
    rw [e1] at q
    simp only [Pv.R.bind_ok] at q
    have pre : ∀ {Q' : VK}, (∀ as1 H1, Ext as H as1 H1 → RelS X.K as1 H1 S1 → ∀ v, RepV X.K as1 H1 d v → Q' v H1) → tE X.K W ma σ H Q' := fun {Q'} f => ⟨ρ, S, as, rel, env, by rw [e1]; exact f⟩
    cases d with
    | tup xs =>
      simp only [iter] at q
      refine .inr (.inl (pre fun as1 H1 x1 rel1 v hv => ?_))
      simp only [RepV] at hv
      obtain ⟨a, vs, rfl, hq, l, t⟩ := hv
      exact ⟨a, rfl, ⟨vs, hq⟩, q as1 H1 x1 rel1 trivial _ (walks_seq rel1 hq t)⟩
    | fzl xs =>
      simp only [iter] at q
      refine .inl (pre fun as1 H1 x1 rel1 v hv => ?_)
      simp only [RepV] at hv
      obtain ⟨a, vs, rfl, hq, l, t⟩ := hv
      exact ⟨a, rfl, ⟨vs, FzL.sq _ hq⟩, q as1 H1 x1 rel1 trivial _ (walks_fzl rel1 hq t)⟩
    | str z =>
      simp only [iter] at q
      refine .inr (.inr (pre fun as1 H1 x1 rel1 v hv => ?_))
      simp only [RepV] at hv
      exact ⟨z, hv.1, q as1 H1 x1 rel1 trivial _ (walks_str hv.2)⟩
    | ref j =>
      simp only [iter] at q
      cases e2 : S1[j]? with
      | none => rw [e2] at q; exact q.elim
      | some c =>
        rw [e2] at q
        cases c with
        | lst xs =>
          refine .inl (pre fun as1 H1 x1 rel1 v hv => ?_)
          simp only [RepV] at hv
          obtain ⟨a, rfl, ha⟩ := hv
          obtain ⟨vs, z1, l, t⟩ := rel1.cell j _ a e2 ha
          exact ⟨a, rfl, ⟨vs, SqL.of z1⟩, q as1 H1 x1 rel1 e2 _ (walks_lst ha)⟩
        | _ => exact q.elim
    | _ => exact q.elim
theorem iter_range {ds : List D} {S : Store} {p : List D × Option Nat} (h : iter .range ds S = some p) :
    (∃ j, ds = [.int j] ∧ j ≤ 16777216 ∧ -16777216 ≤ j ∧ p = ((List.range j.toNat).map fun (k : Nat) => D.int (0 + k), none)) ∨
    ∃ i j, ds = [.int i, .int j] ∧ j ≤ 16777216 ∧ -16777216 ≤ j ∧ i ≤ 16777216 ∧ -16777216 ≤ i ∧ p = ((List.range (j - i).toNat).map fun (k : Nat) => D.int (i + k), none) := by
  unfold iter at h
  split at h
  all_goals (try (rename_i z; cases z))
  · split at h
    · rename_i hc
      cases h
      exact .inl ⟨_, rfl, hc.1, hc.2, rfl⟩
    · cases h
  · split at h
    · rename_i hc
      cases h
      exact .inr ⟨_, _, rfl, hc.1, hc.2.1, hc.2.2.1, hc.2.2.2, rfl⟩
    · cases h
  · cases h
theorem si_rng1 {a : Expr} {p pos : Pos} {ms : Env → Store → R (List D)} (h1 : ∀ ρ S ds S1, ms ρ S = .ok ds S1 → ds.length = 1) (hg : Gl X "range") (hm : X.mg "range" = none) (ha : PA X [a] (tAs X.K W ms)) (hs : starEach [a] X.env = [(false, eval a X.env)]) :
    PI X tg (.Call (.Name "range" p) [a] [] pos) (tI X.K W (itm .range ms)) := by
  refine PIwk (pi_range1 hg hm ha hs) fun σ H R ⟨ρ, S, as, rel, env, q⟩ => ?_
  refine tA_then rel env q fun xs H1 ds S1 as1 rel1 env1 up1 hxs e1 q1 => ?_
  cases e2 : iter .range ds S1 with
  | none => rw [e2] at q1; exact q1.elim
  | some p =>
    rw [e2] at q1
    rcases iter_range e2 with ⟨j, rfl, b1, b2, rfl⟩ | ⟨i, j, rfl, _⟩
    · obtain ⟨x, rfl, hx⟩ := repVs1 hxs
      simp only [RepV] at hx
      subst hx
      exact ⟨j, rfl, by omega, by omega, q1.here rel1 trivial _ (walks_rng 0 j.toNat)⟩
    · have := h1 _ _ _ _ e1
      cases this
theorem si_rng2 {a b : Expr} {p pos : Pos} {ms : Env → Store → R (List D)} (h1 : ∀ ρ S ds S1, ms ρ S = .ok ds S1 → ds.length = 2) (hg : Gl X "range") (hm : X.mg "range" = none) (ha : PA X [a, b] (tAs X.K W ms)) (hs : starEach [a, b] X.env = [(false, eval a X.env), (false, eval b X.env)]) (hs2 : starEach [b] X.env = [(false, eval b X.env)]) :
    PI X tg (.Call (.Name "range" p) [a, b] [] pos) (tI X.K W (itm .range ms)) := by
  refine PIwk (pi_range2 hg hm ha hs hs2) fun σ H R ⟨ρ, S, as, rel, env, q⟩ => ?_
  refine tA_then rel env q fun xs H1 ds S1 as1 rel1 env1 up1 hxs e1 q1 => ?_
  cases e2 : iter .range ds S1 with
  | none => rw [e2] at q1; exact q1.elim
  | some p =>
    rw [e2] at q1
    rcases iter_range e2 with ⟨j, rfl, b1, b2, rfl⟩ | ⟨i, j, rfl, b1, b2, b3, b4, rfl⟩
    · have := h1 _ _ _ _ e1
      cases this
    · obtain ⟨x, y, rfl, hx, hy⟩ := repVs2 hxs
      simp only [RepV] at hx hy
      subst hx hy
      exact ⟨i, j, rfl, ⟨by omega, by omega, by omega, by omega⟩, q1.here rel1 trivial _ (walks_rng i (j - i).toNat)⟩

/-! ### targets -/
def setAll (σ : L2.St) (is : List Nat) (vs : List V) : L2.St := (is.zip vs).foldl (fun σ p => σ.set p.1 (some p.2)) σ
def tG (K : PySem.W.Frag) : Tg → TG
  | .nm i => gName i
  | .tp is => fun v σ H Q => ∃ a xs, v = .ref a ∧ SqT K H a xs ∧ xs.length = is.length ∧ Q (setAll σ is xs) H
/-- a stored name -/
def Stor (X : Cx) (i : Nat) (x : Str) : Prop := X.N[i]? = some x ∧ Loc X.env.scope x ∧ (X.fn x = true ∨ X.env.scope.names.lookup x = some .local)
theorem setAll_len : ∀ (is : List Nat) (vs : List V) (σ : L2.St), (setAll σ is vs).length = σ.length
  | [], _, _ => rfl
  | _ :: _, [], _ => rfl
  | i :: is, v :: vs, σ => by
    show (setAll (σ.set i (some v)) is vs).length = _
    rw [setAll_len is vs, List.length_set]
theorem pgs_names (nd : X.N.Nodup) : ∀ (is : List Nat) (es : List Expr), (∀ j (h : j < es.length), ∃ i x p, is[j]? = some i ∧ es[j] = .Name x p ∧ Stor X i x) → is.length = es.length → PGs X es (fun vs σ H Q => vs.length = is.length ∧ Q (setAll σ is vs) H)
  | [], [], _, _ => ⟨fun pins s σ H vs us Q I r h => by
    obtain ⟨h1, h2⟩ := h
    have e : vs = [] := List.eq_nil_of_length_eq_zero h1
    subst e
    exact pgs_nil.run pins s σ H [] us Q I r ⟨rfl, h2⟩⟩
  | i :: is, e :: es, h, hl => by
    obtain ⟨i', x, p, h1, h2, h3⟩ := h 0 (by simp)
    simp at h1 h2
    subst h1 h2
    have ih := pgs_names nd is es (fun j hj => h (j + 1) (by simpa using hj)) (by simpa using hl)
    have g := pgs_cons (pg_name (pos := p) nd h3.1 h3.2.1 h3.2.2) ih (by rfl)
    refine ⟨fun pins s σ H vs us Q I r q => g.run pins s σ H vs us Q I r ?_⟩
    obtain ⟨q1, q2⟩ := q
    cases vs with
    | nil => simp at q1
    | cons v vs => exact ⟨v, vs, rfl, by simpa using q1, q2⟩
  | [], _ :: _, _, hl => by simp at hl
  | _ :: _, [], _, hl => by simp at hl
theorem bind_env {K : PySem.W.Frag} {as : List Addr} {H : Hp} {d : D} {v : V} (hv : RepV K as H d v) {ρ : Env} {σ : L2.St} (env : EnvR K as H ρ σ) (i : Nat) : EnvR K as H (ρ.set i (some d)) (σ.set i (some v)) := by
  refine ⟨by rw [List.length_set, List.length_set]; exact env.1, fun j e q => ?_⟩
  by_cases hj : i = j
  · subst hj
    have hi : i < ρ.length := by
      have := (List.getElem?_eq_some_iff.mp q).1
      rwa [List.length_set] at this
    rw [List.getElem?_set_self hi] at q
    cases q
    exact ⟨v, List.getElem?_set_self (by rw [← env.1]; exact hi), hv⟩
  · rw [List.getElem?_set_ne hj] at q ⊢
    exact env.2 j e q
theorem bind_envs {K : PySem.W.Frag} {as : List Addr} {H : Hp} : ∀ (is : List Nat) {ds : List D} {vs : List V} {ρ : Env} {σ : L2.St}, RepVs K as H ds vs → EnvR K as H ρ σ → EnvR K as H ((is.zip ds).foldl (fun ρ p => ρ.set p.1 (some p.2)) ρ) (setAll σ is vs)
  | [], _, _, _, _, _, env => env
  | _ :: _, [], _, _, _, t, env => by simp only [RepVs] at t; subst t; exact env
  | i :: is, d :: ds, _, ρ, σ, t, env => by
    simp only [RepVs] at t
    obtain ⟨v, r, rfl, h1, h2⟩ := t
    exact bind_envs is h2 (bind_env h1 env i)
theorem wipe_get (σ : L2.St) (j : Nat) : ∀ vs : List Nat, (wipe σ vs)[j]? = if j ∈ vs then (if j < σ.length then some none else none) else σ[j]?
  | [] => by simp [wipe]
  | v :: vs => by
    unfold wipe
    by_cases e : v = j
    · subst e
      rw [if_pos (by simp)]
      by_cases hl : v < σ.length
      · rw [if_pos hl, List.getElem?_set_self (by rw [wipe_length]; exact hl)]
      · rw [if_neg hl, List.getElem?_eq_none (by rw [List.length_set, wipe_length]; omega)]
    · rw [List.getElem?_set_ne e, wipe_get σ j vs]
      simp only [List.mem_cons, show ¬ j = v from fun z => e z.symm, false_or]
theorem wipe_set {σ : L2.St} {i : Nat} {x : Option V} {vs : List Nat} (h : i ∈ vs) : wipe (σ.set i x) vs = wipe σ vs := by
  apply List.ext_getElem?
  intro j
  rw [wipe_get, wipe_get, List.length_set]
  by_cases hj : j ∈ vs
  · rw [if_pos hj, if_pos hj]
  · rw [if_neg hj, if_neg hj, List.getElem?_set_ne (fun e : i = j => hj (by rw [← e]; exact h))]
theorem wipe_wipe {σ : L2.St} {vs : List Nat} : wipe (wipe σ vs) vs = wipe σ vs := by
  apply List.ext_getElem?
  intro j
  rw [wipe_get, wipe_get, wipe_length]
  by_cases hj : j ∈ vs
  · rw [if_pos hj, if_pos hj]
  · rw [if_neg hj]
theorem wipe_all : ∀ (is : List Nat) {ds : List V} {σ : L2.St} {vs : List Nat}, (∀ i ∈ is, i ∈ vs) → wipe (setAll σ is ds) vs = wipe σ vs
  | [], _, _, _, _ => rfl
  | _ :: _, [], _, _, _ => rfl
  | i :: is, d :: ds, σ, vs, h => by
    show wipe (setAll (σ.set i (some d)) is ds) vs = _
    rw [wipe_all is fun j hj => h j (by simp [hj]), wipe_set (h i (by simp))]
theorem wipe_env {K : PySem.W.Frag} {as : List Addr} {H : Hp} {ρ : Env} {σ : L2.St} (env : EnvR K as H ρ σ) : ∀ vs : List Nat, EnvR K as H (wipeE ρ vs) (wipe σ vs)
  | [] => env
  | v :: vs => by
    have ih := wipe_env env vs
    unfold wipe wipeE
    refine ⟨by rw [List.length_set, List.length_set]; exact ih.1, fun j e q => ?_⟩
    by_cases hj : v = j
    · subst hj
      have hi : v < (wipeE ρ vs).length := by
        have := (List.getElem?_eq_some_iff.mp q).1
        rwa [List.length_set] at this
      rw [List.getElem?_set_self hi] at q
      cases q
    · rw [List.getElem?_set_ne hj] at q ⊢
      exact ih.2 j e q
theorem bind_ok {K : PySem.W.Frag} {as : List Addr} {H : Hp} {t : Tg} {d : D} {v : V} {ρ ρ' : Env} {σ : L2.St} (hb : bindT t d ρ = some ρ') (hv : RepV K as H d v) (env : EnvR K as H ρ σ) :
    ∃ σ', EnvR K as H ρ' σ' ∧ (∀ Q : L2.St → Hp → Prop, Q σ' H → tG K t v σ H Q) ∧ ∀ vs, (∀ i ∈ tgSlots t, i ∈ vs) → wipe σ' vs = wipe σ vs := by
  cases t with
  | nm i =>
    simp only [bindT] at hb
    split at hb
    · cases hb
      exact ⟨_, bind_env hv env i, fun Q q => q, fun vs h => wipe_set (h i (by simp [tgSlots]))⟩
    · cases hb
  | tp is =>
    simp only [bindT] at hb
    cases d with
    | tup ds =>
      simp only at hb
      split at hb
      · rename_i hc
        cases hb
        simp only [RepV] at hv
        obtain ⟨a, vs, rfl, hq, l, t⟩ := hv
        refine ⟨setAll σ is vs, bind_envs is t env, fun Q q => ⟨a, vs, rfl, hq, by rw [t.length]; exact hc.1, q⟩, fun us h => wipe_all is fun i hi => h i hi⟩
      · cases hb
    | _ => cases hb
theorem pg_tg {tg : Expr} {t : Tg} (hc : X.calm = true) (nd : X.N.Nodup) (h : (∃ x p i, tg = .Name x p ∧ t = .nm i ∧ Stor X i x) ∨ ∃ es k p is, tg = .Tuple es k p ∧ t = .tp is ∧ is.length = es.length ∧ ∀ j (h : j < es.length), ∃ i x p, is[j]? = some i ∧ es[j] = .Name x p ∧ Stor X i x) : PG X tg (tG X.K t) := by
  rcases h with ⟨x, p, i, rfl, rfl, h⟩ | ⟨es, k, p, is, rfl, rfl, hl, h⟩
  · exact pg_name nd h.1 h.2.1 h.2.2
  · have e : ∀ (es : List Expr), (∀ j (h : j < es.length), ∃ x p, es[j] = .Name x p) → (assignEach es X.env).length = es.length ∧ (assignEach es X.env).findIdx? (·.1) = none := by
      intro es
      induction es with
      | nil => intro _; exact ⟨rfl, rfl⟩
      | cons e es ih =>
        intro h
        obtain ⟨x, p, q⟩ := h 0 (by simp)
        simp at q
        subst q
        obtain ⟨i1, i2⟩ := ih fun j hj => h (j + 1) (by simpa using hj)
        refine ⟨by show (assignEach es X.env).length + 1 = _; rw [i1]; rfl, ?_⟩
        show List.findIdx? _ ((false, assign (.Name x p) X.env) :: assignEach es X.env) = none
        rw [List.findIdx?_cons]
        simp only [Bool.false_eq_true, if_false, i2]
        rfl
    obtain ⟨e1, e2⟩ := e es fun j hj => let ⟨i, x, p, _, q, _⟩ := h j hj; ⟨x, p, q⟩
    refine PGwk (pg_tup hc (pgs_names nd is es h hl) e1 e2) fun v σ H Q q => ?_
    obtain ⟨a, xs, q1, q2, q3, q4⟩ := q
    exact ⟨a, xs, q1, q2, by rw [q3, hl], q3, q4⟩
end
end Pv
set_option Elab.async false
set_option linter.all false
set_option maxRecDepth 100000
set_option maxHeartbeats 1000000
/-! comprehensions -/
namespace Pv
open PySem PySem.Spec PyProof.Rows L2
def lcF (tg : Tg) (own : List Nat) (me : Env → Store → R D) (mc : Option (Env → Store → R D)) (ρ : Env) : D → Store → R (Option D) := fun d S2 => match bindT tg d (wipeE ρ own) with
  | none => .no
  | some ρ' => match mc with
    | none => (me ρ' S2).bind fun y S3 => .ok (some y) S3
    | some mc => (mc ρ' S2).bind fun t S3 => isB t S3 fun b => if b = true then (me ρ' S3).bind fun y S4 => .ok (some y) S4 else .ok none S3
noncomputable def lcM (tg : Tg) (own : List Nat) (mi : Env → Store → R (List D × Option Nat)) (me : Env → Store → R D) (mc : Option (Env → Store → R D)) : Env → Store → R D := fun ρ S => (mi ρ S).bind fun p S1 =>
  (R.noex (lcGo (lcF tg own me mc ρ) p.2 p.1 p.1 S1)).bind fun ys S2 => if p.1.length ≤ sizeLine then alloc (.lst ys) S2 else .no
/-- the element's and the test's reading in one -/
theorem lcGo_nil {f : D → Store → R (Option D)} {g : Option Nat} {all : List D} {S S' : Store} {ys : List D} (h : lcGo f g all [] S = .ok ys S') : stands g all S ∧ ys = [] ∧ S' = S := by
  unfold lcGo at h
  split at h
  · rename_i z; cases h; exact ⟨z, rfl, rfl⟩
  · cases h
theorem lcGo_cons {f : D → Store → R (Option D)} {g : Option Nat} {all : List D} {S S' : Store} {x : D} {xs ys : List D} (h : lcGo f g all (x :: xs) S = .ok ys S') :
    stands g all S ∧ ∃ o S1 zs, f x S = .ok o S1 ∧ lcGo f g all xs S1 = .ok zs S' ∧ ys = o.toList ++ zs := by
  unfold lcGo at h
  split at h
  · rename_i z
    refine ⟨z, ?_⟩
    cases e1 : f x S with
    | ok o S1 =>
      rw [e1] at h
      simp only [R.bind_ok] at h
      cases e2 : lcGo f g all xs S1 with
      | ok zs S2 =>
        rw [e2] at h
        simp only [R.bind_ok] at h
        cases o with
        | none => cases h; exact ⟨none, S1, zs, rfl, e2, rfl⟩
        | some y => cases h; exact ⟨some y, S1, zs, rfl, e2, rfl⟩
      | ex c fs S2 => rw [e2] at h; cases h
      | no => rw [e2] at h; cases h
    | ex c fs S1 => rw [e1] at h; cases h
    | no => rw [e1] at h; cases h
  · cases h
section
variable {X : Cx} {W : WX}
theorem lc_read {own : List (Str × Nat)} {t : Tg} {mi : Env → Store → R (List D × Option Nat)} {me : Env → Store → R D} {mc : Option (Env → Store → R D)} {tt : TT} (hown : ∀ i ∈ tgSlots t, i ∈ own.map (·.2)) (h2 : (mc = none ∧ tt = tYes) ∨ ∃ m, mc = some m ∧ tt = tT X.K (fun _ _ _ _ => False) m)
    (σ : L2.St) (H : Hp) (Q : VK) (qq : tE X.K W (lcM t (own.map (·.2)) mi me mc) σ H Q) : tLc (tI X.K W mi) (tG X.K t) tt (tE X.K (fun _ _ _ _ => False) me) (own.map (·.2)) σ H Q := by
  obtain ⟨ρ, S, as, rel, env, q⟩ := qq
  unfold lcM at q
  refine ⟨ρ, S, as, rel, env, q.bind.imp fun p S1 as1 H1 x1 rel1 q1 st J hw Dd hD => ?_⟩
  have env1 := x1.env rel env
  cases eT : lcGo (lcF t (own.map (·.2)) me mc ρ) p.2 p.1 p.1 S1 with
  | no => rw [eT] at q1; exact q1.elim
  | ex c fs S2 => rw [eT] at q1; exact q1.elim
  | ok ysT ST =>
  rw [eT] at q1
  simp only [R.noex, R.bind_ok] at q1
  split at q1
  case isFalse => exact q1.elim
  rename_i hlen
  refine ⟨fun i m H => m = p.1.length - i ∧ i ≤ p.1.length ∧ ∃ as' S' accD accV ys, RelS X.K as' H S' ∧ Dd ∉ as' ∧ H Dd = some (.lst accV) ∧ RepVs X.K as' H accD accV ∧ accD.length ≤ i ∧ Ext as1 H1 as' H ∧ EnvR X.K as' H ρ σ ∧
    lcGo (lcF t (own.map (·.2)) me mc ρ) p.2 p.1 (p.1.drop i) S' = .ok ys ST ∧ accD ++ ys = ysT,
    ⟨p.1.length, by simp, Nat.zero_le _, as1, S1, [], [], ysT, rel1.updO hD, rel1.none_not hD, upd_same, by simp only [RepVs], Nat.le_refl _, Ext.updO hD, (Ext.updO hD).env rel1 env1, by simpa using eT, rfl⟩, ?_⟩
  rintro i m H2 ⟨rfl, hi', as2, S2, accD, accV, ys, rel2, hDn, hDe, hacc, hal, x2, env2, eg, eys⟩
  by_cases hlt : i < p.1.length
  · rw [List.drop_eq_getElem_cons hlt] at eg
    obtain ⟨st2, o, S3, zs, ef, eg', eo⟩ := lcGo_cons eg
    obtain ⟨w1, w2⟩ := hw as2 H2 S2 x2 rel2 st2
    obtain ⟨go, yl⟩ := w2 i p.1[i] (List.getElem?_eq_getElem hlt)
    refine .inr ⟨go, fun H' => ∃ as' accD' accV', RelS X.K as' H' S3 ∧ Dd ∉ as' ∧ H' Dd = some (.lst accV') ∧ RepVs X.K as' H' accD' accV' ∧ accD'.length ≤ i + 1 ∧ Ext as1 H1 as' H' ∧ EnvR X.K as' H' ρ σ ∧ accD' ++ zs = ysT, fun H' h' => ?_, fun x H3 hy => ?_⟩
    · obtain ⟨as', accD', accV', a1, a2, a3, a4, a5, a6, a7, a8⟩ := h'
      exact ⟨p.1.length - (i + 1), by omega, rfl, hlt, as', S3, accD', accV', zs, a1, a2, a3, a4, a5, a6, a7, eg', a8⟩
    · obtain ⟨y1, y2, y3⟩ := yl x H3 hy
      have hD3 : H3 Dd = some (.lst accV) := y1.keep _ _ hDe hDn
      have hacc3 := y1.repVs rel2 _ _ hacc
      have env3 := y1.env rel2 env2
      have x3 := x2.trans y1
      unfold lcF at ef
      cases eb : bindT t p.1[i] (wipeE ρ (own.map (·.2))) with
      | none => rw [eb] at ef; cases ef
      | some ρ' =>
        rw [eb] at ef
        obtain ⟨σ', b1, b2, b3⟩ := bind_ok eb y3 (wipe_env env3 (own.map (·.2)))
        refine b2 _ ⟨(b3 _ hown).trans wipe_wipe, ?_⟩
        -- the element, evaluated at S'
        have elt_ok : ∀ (as4 : List Addr) (H4 : Hp) (S4 : Store), Ext as2 H3 as4 H4 → RelS X.K as4 H4 S4 → (∃ y, o = some y ∧ me ρ' S4 = .ok y S3) →
            tE X.K (fun _ _ _ _ => False) me σ' H4 fun y H5 => ∃ acc, H5 Dd = some (.lst acc) ∧ acc.length < sizeLine ∧ (fun H' => ∃ as' accD' accV', RelS X.K as' H' S3 ∧ Dd ∉ as' ∧ H' Dd = some (.lst accV') ∧ RepVs X.K as' H' accD' accV' ∧ accD'.length ≤ i + 1 ∧ Ext as1 H1 as' H' ∧ EnvR X.K as' H' ρ σ ∧ accD' ++ zs = ysT) (upd H5 Dd (.lst (acc ++ [y]))) := by
          intro as4 H4 S4 x4 rel4 ⟨yv, ho, hme⟩
          refine ⟨ρ', S4, as4, rel4, x4.env y2 b1, ?_⟩
          rw [hme]
          intro as5 H5 x5 rel5 yV hyV
          have x25 := x4.trans x5
          have hD5 : H5 Dd = some (.lst accV) := x25.keep _ _ hD3 hDn
          have hn5 : Dd ∉ as5 := x25.notin hD3 hDn
          have hl := hacc.length
          refine ⟨accV, hD5, by omega, as5, accD ++ [yv], accV ++ [yV], rel5.out hD5 hn5, hn5, upd_same, ?_, by rw [List.length_append]; simp; omega, (x3.trans x25).out hD, (Mon.out hD5).env (x25.env y2 env3), ?_⟩
          · exact RepVs.append ((Mon.out hD5).repVs _ _ (x25.repVs y2 _ _ hacc3)) (RepVs.one ((Mon.out hD5).repV _ _ hyV))
          · rw [← eys, eo, ho]; simp
        rcases h2 with ⟨rfl, rfl⟩ | ⟨m, rfl, rfl⟩
        · -- no test
          simp only at ef
          show tE X.K (fun _ _ _ _ => False) me σ' H3 _
          refine elt_ok as2 H3 S2 Ext.refl y2 ?_
          cases em : me ρ' S2 with
          | ok y S5 => rw [em] at ef; simp only [R.bind_ok] at ef; cases ef; exact ⟨y, rfl, rfl⟩
          | ex c fs S5 => rw [em] at ef; cases ef
          | no => rw [em] at ef; cases ef
        · simp only at ef
          refine ⟨ρ', S2, as2, y2, b1, ?_⟩
          cases em : m ρ' S2 with
          | no => rw [em] at ef; cases ef
          | ex c fs S5 => rw [em] at ef; cases ef
          | ok bd S5 =>
            rw [em] at ef
            simp only [R.bind_ok] at ef
            cases bd with
            | bl b =>
              simp only [isB] at ef
              intro as4 H4 x4 rel4
              refine ⟨b, rfl, ?_⟩
              cases b with
              | true =>
                simp only [if_true] at ef ⊢
                refine elt_ok as4 H4 S5 x4 rel4 ?_
                cases em2 : me ρ' S5 with
                | ok y S6 => rw [em2] at ef; simp only [R.bind_ok] at ef; cases ef; exact ⟨y, rfl, rfl⟩
                | ex c fs S6 => rw [em2] at ef; cases ef
                | no => rw [em2] at ef; cases ef
              | false =>
                simp only [Bool.false_eq_true, if_false] at ef ⊢
                cases ef
                refine ⟨as4, accD, accV, rel4, x4.notin hD3 hDn, x4.keep _ _ hD3 hDn, x4.repVs y2 _ _ hacc3, by omega, x3.trans x4, x4.env y2 env3, ?_⟩
                rw [← eys, eo]; rfl
            | _ => cases ef
  · have e : i = p.1.length := by omega
    subst e
    rw [List.drop_length] at eg
    obtain ⟨st2, rfl, rfl⟩ := lcGo_nil eg
    obtain ⟨w1, w2⟩ := hw as2 H2 ST x2 rel2 st2
    refine .inl ⟨w1 _ (Nat.le_refl _), ?_⟩
    rw [List.append_nil] at eys
    subst eys
    have hl : accD.length ≤ sizeLine := by omega
    refine q1 (as2 ++ [Dd]) H2 ⟨?_, x2.keep, fun a ha => ?_⟩ (rel2.adopt hDe hDn hl hacc) (.ref Dd) ?_
    · obtain ⟨mm, em⟩ := x2.more
      exact ⟨mm ++ [Dd], by rw [em, List.append_assoc]⟩
    · rcases List.mem_append.mp ha with ha | ha
      · exact x2.fresh a ha
      · simp at ha; subst ha; exact .inr hD
    · simp only [RepV]
      exact ⟨Dd, rfl, by rw [← rel2.len]; simp⟩
theorem lc_tests {ifs : List Expr} {scope : Scope} {mc : Option (Env → Store → R D)}
    (ht : (mc = none ∧ ifs = []) ∨ ∃ c m, mc = some m ∧ ifs = [c] ∧ ∀ (s : Shared) (H : Hp) (C : Addr) (cl : List (Str × Addr)) (fp : List Addr), PT (X.blk s H scope (compEnvC scope cl C X.env) fp) c (tT X.K (fun _ _ _ _ => False) m)) :
    ∃ tt : TT, (∀ (s : Shared) (H : Hp) (C : Addr) (cl : List (Str × Addr)) (fp : List Addr), PTs (X.blk s H scope (compEnvC scope cl C X.env) fp) ifs tt) ∧
      ((mc = none ∧ tt = tYes) ∨ ∃ m, mc = some m ∧ tt = tT X.K (fun _ _ _ _ => False) m) := by
  rcases ht with ⟨rfl, rfl⟩ | ⟨c, m, rfl, rfl, h⟩
  · exact ⟨tYes, fun _ _ _ _ _ => pts_nil, .inl ⟨rfl, rfl⟩⟩
  · exact ⟨_, fun s H C cl fp => pts_one (h s H C cl fp), .inr ⟨m, rfl, rfl⟩⟩
/-- what a comprehension's parts are -/
structure LcP (X : Cx) (W : WX) (elt tg iter : Expr) (ifs : List Expr) (scope : Scope) (own : List (Str × Nat)) (t : Tg) (mi : Env → Store → R (List D × Option Nat)) (me : Env → Store → R D) (mc : Option (Env → Store → R D)) : Prop where
  hi : PI X tg iter (tI X.K W mi)
  ok : BlkOk X.N X.env.scope scope own
  own : ∀ i ∈ tgSlots t, i ∈ own.map (·.2)
  hg : ∀ (s : Shared) (H : Hp) (C : Addr) (cl : List (Str × Addr)) (fp : List Addr), PG (X.blk s H scope (compEnvC scope cl C X.env) fp) tg (tG X.K t)
  he : ∀ (s : Shared) (H : Hp) (C : Addr) (cl : List (Str × Addr)) (fp : List Addr), PE (X.blk s H scope (compEnvC scope cl C X.env) fp) elt (tE X.K (fun _ _ _ _ => False) me)
  ht : (mc = none ∧ ifs = []) ∨ ∃ c m, mc = some m ∧ ifs = [c] ∧ ∀ (s : Shared) (H : Hp) (C : Addr) (cl : List (Str × Addr)) (fp : List Addr), PT (X.blk s H scope (compEnvC scope cl C X.env) fp) c (tT X.K (fun _ _ _ _ => False) m)
  hs : ∀ x, foldedSetIterable iter X.env x = pure x
theorem se_lc {elt tg iter : Expr} {ifs : List Expr} {scope : Scope} {own : List (Str × Nat)} {pos : Pos} {t : Tg} {mi : Env → Store → R (List D × Option Nat)} {me : Env → Store → R D} {mc : Option (Env → Store → R D)} (hc : X.calm = true) (hN : X.N.Nodup)
    (L : LcP X W elt tg iter ifs scope own t mi me mc) : PE X (.ListComp elt [⟨tg, iter, ifs, 0⟩] scope pos) (tE X.K W (lcM t (own.map (·.2)) mi me mc)) := by
  obtain ⟨tt, h1, h2⟩ := lc_tests L.ht
  exact PEwk (pe_lc hc hN L.hi L.ok L.hg h1 L.he L.hs) fun σ H Q q => lc_read L.own h2 σ H Q q
theorem ss_lc {elt tg iter : Expr} {ifs : List Expr} {scope : Scope} {own : List (Str × Nat)} {pos spos py : Pos} {y : Str} {i : Nat} {t : Tg} {mi : Env → Store → R (List D × Option Nat)} {me : Env → Store → R D} {mc : Option (Env → Store → R D)} (hc : X.calm = true) (hN : X.N.Nodup)
    (hy : X.N[i]? = some y) (hyl : X.env.scope.names.lookup y = some .local) (hsw : swapsWith (.ListComp elt [⟨tg, iter, ifs, 0⟩] scope pos) (some (.Name y py)) spos.line X.env = pure true)
    (L : LcP X W elt tg iter ifs scope own t mi me mc) : PS X (.Assign [.Name y py] (.ListComp elt [⟨tg, iter, ifs, 0⟩] scope pos) spos) (tAsg (tE X.K W (lcM t (own.map (·.2)) mi me mc)) (gName i)) := by
  obtain ⟨tt, h1, h2⟩ := lc_tests L.ht
  exact PSwk (ps_setLc hc hN hy hyl hsw L.hi L.ok L.hg h1 L.he L.hs) fun Dn σ H q => lc_read L.own h2 σ H _ q
end
end Pv
set_option Elab.async false
set_option linter.all false
set_option maxRecDepth 100000
set_option maxHeartbeats 2000000
/-! methods; every expression -/
namespace Pv
open PySem PySem.Spec PyProof.Rows L2
def Fine : Expr → Bool
  | .Starred .. => false
  | .Slice .. => false
  | .Set .. => false
  | .Call (.Name _ _) [] [] _ => false
  | _ => true
theorem cE_fine {g : Cfg} {n : Nat} {c : Sc} {e : Expr} {me : E} (h : cE g n c e = some me) : Fine e = true := by
  cases n with
  | zero => simp [cE] at h
  | succ n =>
    cases e <;> try rfl
    case Starred => simp [cE] at h
    case Slice => simp [cE] at h
    case Set => simp [cE] at h
    case Call f as ks p =>
      cases f <;> try rfl
      case Name x q =>
        cases as with
        | nil =>
          cases ks with
          | nil => simp [cE] at h
          | cons _ _ => rfl
        | cons _ _ => rfl
theorem fine_star {e : Expr} (h : Fine e = true) (es : List Expr) (env : PySem.Env) : starEach (e :: es) env = (false, eval e env) :: starEach es env := by
  cases e <;> first | rfl | cases h
theorem fine_ix {e : Expr} (h : Fine e = true) : PlainIx e := by
  intro o i
  cases e <;> first | rfl | cases h
theorem fine_marks {e : Expr} (h : Fine e = true) (op : CmpOp) : behindInMarks op e = false := by
  cases e <;> first | rfl | cases h
theorem fine_set {e : Expr} (h : Fine e = true) (env : PySem.Env) (x : Value) : foldedSetIterable e env x = pure x := by
  cases e <;> first | rfl | cases h
theorem fine_base {o : Expr} (h : Fine o = true) (m : Str) (env : PySem.Env) : attributeBase o m env (eval o env) = eval o env := by
  cases o <;> try rfl
  case Call f as ks p =>
    cases f <;> try rfl
    case Name x q =>
      cases as with
      | nil =>
        cases ks with
        | nil => cases h
        | cons _ _ => rfl
      | cons _ _ => rfl
theorem fine_plain (pos : Pos) (env : PySem.Env) : ∀ {es : List Expr}, (∀ e ∈ es, Fine e = true) → (backTo pos (starEach es env)).any (·.1) = false
  | [], _ => rfl
  | e :: es, h => by
    rw [fine_star (h e (by simp))]
    show (false || (backTo pos (starEach es env)).any (·.1)) = false
    rw [fine_plain pos env fun e he => h e (by simp [he])]
    rfl
theorem fine_few (pos : Pos) (env : PySem.Env) {es : List Expr} (h : ∀ e ∈ es, Fine e = true) : (backTo pos (starEach es env)).all (fun x => !x.1) = true := by
  have := fine_plain pos env h
  rw [List.all_eq_true]
  intro x hx
  rw [List.any_eq_false] at this
  simpa using this x hx

section
variable {X : Cx} {W : WX} {o e : Expr} {mo : Env → Store → R D} {ms : Env → Store → R (List D)} {apos cpos : Pos}
abbrev mthM (m : M) (mo : Env → Store → R D) (ms : Env → Store → R (List D)) : Env → Store → R D := fun ρ S => (mo ρ S).bind fun x S1 => if mtOk m x S1 = true then (ms ρ S1).bind fun ds S2 => mi m x ds S2 else .no
theorem few_ok {es : List Expr} {env : PySem.Env} (h : ∀ x ∈ es, Fine x = true) (hl : es.length < 20) : ((backTo cpos (starEach es env)).all (fun x => !x.1) && (backToKw cpos (keywordEach [] env)).all (fun x => x.1.isSome)
      && decide (es.length + ([] : List Keyword).length + (if ([] : List Keyword).isEmpty then 0 else 1) < 30)) = true := by
  rw [fine_few cpos env h]
  show (true && true && decide (es.length + 0 + 0 < 30)) = true
  rw [Bool.true_and, Bool.true_and]
  exact decide_eq_true (by omega)
/-- a method of one type, one argument or more -/
theorem mth_one {T : String} {name id : Str} {idS : String} {m : M} {es : List Expr} (pa : PlainAttrs T) (slot : Slot T name idS) (hty : typeOf (.builtin idS) = pure (.type "method_descriptor")) (hm : MtR X idS (rDm X.K (mi m)))
    (ho : PE X o (tE X.K W mo)) (ha : PA X (e :: es) (tAs X.K W ms)) (hf : Fine o = true) (hfs : ∀ x ∈ e :: es, Fine x = true) (hl : (e :: es).length < 20) (hline : (apos.endLine == cpos.line) = true)
    (ty : ∀ (as : List Addr) (H : Hp) (S : Store) (d : D) (v : V), RelS X.K as H S → RepV X.K as H d v → mtOk m d S = true → tyV X.K T v H) :
    PE X (.Call (.Attribute o name apos) (e :: es) [] cpos) (tE X.K W (mthM m mo ms)) := by
  refine PEwk (pe_bm pa slot hty hm ho ha (fine_base hf _ _) (few_ok hfs hl) hline (fine_star (hfs e (by simp)) _ _) (fine_plain _ _ fun x hx => hfs x (by simp [hx]))) fun σ H Q ⟨ρ, S, as, rel, env, q⟩ => ?_
  refine tE_then rel env q fun x H1 dx S1 as1 rel1 env1 up1 hx _ q1 => ?_
  split at q1
  · rename_i hk
    refine ⟨ty as1 H1 S1 dx x rel1 hx hk, tA_then rel1 env1 q1 fun xs H2 ds S2 as2 rel2 env2 up2 hxs _ q2 => ?_⟩
    exact ⟨_, as2, S2, dx, ds, rel2, up2 _ _ hx, hxs, q2⟩
  · exact q1.elim
theorem mth_none {T : String} {name : Str} {idS : String} {m : M} (pa : PlainAttrs T) (slot : Slot T name idS) (hty : typeOf (.builtin idS) = pure (.type "method_descriptor")) (hm : MtR X idS (rDm X.K (mi m)))
    (ho : PE X o (tE X.K W mo)) (hf : Fine o = true) (hline : (apos.endLine == cpos.line) = true)
    (ty : ∀ (as : List Addr) (H : Hp) (S : Store) (d : D) (v : V), RelS X.K as H S → RepV X.K as H d v → mtOk m d S = true → tyV X.K T v H) :
    PE X (.Call (.Attribute o name apos) [] [] cpos) (tE X.K W (mthM m mo fun _ S => .ok [] S)) := by
  refine PEwk (pe_bm0 pa slot hty hm ho (fine_base hf _ _) hline) fun σ H Q ⟨ρ, S, as, rel, env, q⟩ => ?_
  refine tE_then rel env q fun x H1 dx S1 as1 rel1 env1 up1 hx _ q1 => ?_
  split at q1
  · rename_i hk
    refine ⟨ty as1 H1 S1 dx x rel1 hx hk, ?_⟩
    exact ⟨_, as1, S1, dx, [], rel1, hx, by simp only [RepVs], q1⟩
  · exact q1.elim
theorem ty_lst {m : M} (h : m = .append ∨ m = .extend ∨ m = .pop0) (as : List Addr) (H : Hp) (S : Store) (d : D) (v : V) (rel : RelS X.K as H S) (hv : RepV X.K as H d v) (hk : mtOk m d S = true) : tyV X.K "list" v H := by
  cases d with
  | ref r =>
    simp only [RepV] at hv
    obtain ⟨a, rfl, ha⟩ := hv
    simp only [mtOk] at hk
    cases e : S[r]? with
    | none => rw [e] at hk; simp at hk
    | some c =>
      cases c with
      | lst xs =>
        obtain ⟨vs, z1, l, t⟩ := rel.cell r _ a e ha
        exact .inl ⟨rfl, vs, SqL.of z1⟩
      | dic b kvs => rw [e] at hk; rcases h with rfl | rfl | rfl <;> cases b <;> simp at hk
      | ins c fs => rw [e] at hk; simp at hk
  | str z => rcases h with rfl | rfl | rfl <;> simp [mtOk] at hk
  | _ => simp [mtOk] at hk
theorem ty_dic {m : M} (h : m = .get1 ∨ m = .get2 ∨ m = .pop1 ∨ m = .pop2) (as : List Addr) (H : Hp) (S : Store) (d : D) (v : V) (rel : RelS X.K as H S) (hv : RepV X.K as H d v) (hk : mtOk m d S = true) : tyV X.K "dict" v H := by
  cases d with
  | ref r =>
    simp only [RepV] at hv
    obtain ⟨a, rfl, ha⟩ := hv
    simp only [mtOk] at hk
    cases e : S[r]? with
    | none => rw [e] at hk; simp at hk
    | some c =>
      cases c with
      | lst xs => rw [e] at hk; rcases h with rfl | rfl | rfl | rfl <;> simp at hk
      | dic b kvs =>
        cases b with
        | true => rw [e] at hk; simp at hk
        | false =>
          obtain ⟨ks, z1, l, t⟩ := rel.cell r _ a e ha
          exact .inr (.inr (.inl ⟨rfl, .inl ⟨ks, z1⟩⟩))
      | ins c fs => rw [e] at hk; simp at hk
  | str z => rcases h with rfl | rfl | rfl | rfl <;> simp [mtOk] at hk
  | _ => simp [mtOk] at hk
theorem ty_str {m : M} (h : m = .join ∨ m = .upper) (as : List Addr) (H : Hp) (S : Store) (d : D) (v : V) (rel : RelS X.K as H S) (hv : RepV X.K as H d v) (hk : mtOk m d S = true) : tyV X.K "str" v H := by
  cases d with
  | ref r =>
    simp only [mtOk] at hk
    cases e : S[r]? with
    | none => rw [e] at hk; simp at hk
    | some c =>
      cases c with
      | lst xs => rw [e] at hk; rcases h with rfl | rfl <;> simp at hk
      | dic b kvs => rw [e] at hk; rcases h with rfl | rfl <;> cases b <;> simp at hk
      | ins c fs => rw [e] at hk; simp at hk
  | str z =>
    simp only [RepV] at hv
    rw [hv.1]
    exact rfl
  | _ => simp [mtOk] at hk
/-- .index: of a text or of a list -/
theorem mth_index {es : List Expr} (hu : X.A.units + 65 < cLine) (ho : PE X o (tE X.K W mo)) (ha : PA X (e :: es) (tAs X.K W ms)) (hf : Fine o = true) (hfs : ∀ x ∈ e :: es, Fine x = true) (hl : (e :: es).length < 20) (hline : (apos.endLine == cpos.line) = true) :
    PE X (.Call (.Attribute o "index" apos) (e :: es) [] cpos) (tE X.K W (mthM .index mo ms)) := by
  refine PEwk (PEor (pe_bm PySem.F.plainAttrs_str PySem.F.slot_str_index PySem.F.type_str_index mi_sindex ho ha (fine_base hf _ _) (few_ok hfs hl) hline (fine_star (hfs e (by simp)) _ _) (fine_plain _ _ fun x hx => hfs x (by simp [hx])))
    (pe_bm PySem.F.plainAttrs_list PySem.F.slot_list_index PySem.F.type_list_index (mi_lindex hu) ho ha (fine_base hf _ _) (few_ok hfs hl) hline (fine_star (hfs e (by simp)) _ _) (fine_plain _ _ fun x hx => hfs x (by simp [hx])))) fun σ H Q ⟨ρ, S, as, rel, env, q⟩ => ?_
  cases e1 : mo ρ S with
  | no => unfold mthM at q; rw [e1] at q; exact q.elim
  | ex c fs S1 =>
    unfold mthM at q
    rw [e1] at q
    refine .inl ⟨ρ, S, as, rel, env, ?_⟩
    rw [e1]
    exact q
  | ok d S1 =>
    cases d with
    | str z =>
      refine .inl (tE_then rel env q fun x H1 dx S2 as1 rel1 env1 up1 hx e2 q1 => ?_)
      rw [e1] at e2
      cases e2
      rw [if_pos (by simp [mtOk])] at q1
      simp only [RepV] at hx
      refine ⟨by rw [hx.1]; exact rfl, tA_then rel1 env1 q1 fun xs H2 ds S3 as2 rel2 env2 up2 hxs _ q2 => ?_⟩
      exact ⟨_, as2, S3, .str z, ds, rel2, by simp only [RepV]; exact hx, hxs, q2⟩
    | ref r =>
      refine .inr (tE_then rel env q fun x H1 dx S2 as1 rel1 env1 up1 hx e2 q1 => ?_)
      rw [e1] at e2
      cases e2
      have hx' := hx
      simp only [RepV] at hx
      obtain ⟨a, rfl, ha'⟩ := hx
      split at q1
      · rename_i hk
        have hc : ∃ xs, S1[r]? = some (.lst xs) := by
          simp only [mtOk] at hk
          cases e : S1[r]? with
          | none => rw [e] at hk; simp at hk
          | some c =>
            cases c with
            | lst xs => exact ⟨xs, rfl⟩
            | dic b kvs => rw [e] at hk; cases b <;> simp at hk
            | ins c fs => rw [e] at hk; simp at hk
        obtain ⟨ys, hc⟩ := hc
        obtain ⟨vs, z1, l, t⟩ := rel1.cell r _ a hc ha'
        refine ⟨.inl ⟨rfl, vs, SqL.of z1⟩, tA_then rel1 env1 q1 fun xs H2 ds S3 as2 rel2 env2 up2 hxs _ q2 => ?_⟩
        refine ⟨EXW X.K W σ, as2, S3, .ref r, ds, rel2, up2 _ _ hx', hxs, ?_⟩
        show Post X.K _ as2 H2 (mRef .index isLst (.ref r) ds S3) _
        unfold mRef
        simp only
        cases e : S3[r]? with
        | none =>
          match ds, q2 with
          | [], q2 => simp [mi] at q2; exact q2.elim
          | [d], q2 => simp [mi, e] at q2; exact q2.elim
          | _ :: _ :: _, q2 => simp [mi] at q2; exact q2.elim
        | some c =>
          simp only
          cases c with
          | lst zs => rw [if_pos (show isLst (Cell.lst zs) = true from rfl)]; exact q2
          | dic b kvs =>
            match ds, q2 with
            | [], q2 => simp [mi] at q2; exact q2.elim
            | [d], q2 => simp [mi, e] at q2; exact q2.elim
            | _ :: _ :: _, q2 => simp [mi] at q2; exact q2.elim
          | ins c fs =>
            match ds, q2 with
            | [], q2 => simp [mi] at q2; exact q2.elim
            | [d], q2 => simp [mi, e] at q2; exact q2.elim
            | _ :: _ :: _, q2 => simp [mi] at q2; exact q2.elim
      · exact q1.elim
    | _ =>
      unfold mthM at q
      rw [e1] at q
      simp [mtOk] at q
      exact q.elim
theorem mOf_mem {x : Str} {n : Nat} {m : M} (h : mOf x n = some m) : (x, n, m) ∈ mTab := by
  unfold mOf at h
  rw [Option.map_eq_some_iff] at h
  obtain ⟨p, h1, rfl⟩ := h
  have h2 := List.find?_some h1
  have h3 := List.mem_of_find?_eq_some h1
  simp at h2
  rw [← h2.1, ← h2.2]
  exact h3
theorem bOf_mem {x : Str} {n : Nat} {m : B} (h : bOf x n = some m) : (x, n, m) ∈ bTab := by
  unfold bOf at h
  rw [Option.map_eq_some_iff] at h
  obtain ⟨p, h1, rfl⟩ := h
  have h2 := List.find?_some h1
  have h3 := List.mem_of_find?_eq_some h1
  simp at h2
  rw [← h2.1, ← h2.2]
  exact h3
theorem se_mth {name : Str} {m : M} {es : List Expr} (hu : X.A.units + 65 < cLine) (hm : mOf name es.length = some m) (ho : PE X o (tE X.K W mo)) (ha : PA X es (tAs X.K W ms)) (hnil : es = [] → ms = fun _ S => .ok [] S) (hf : Fine o = true) (hfs : ∀ x ∈ es, Fine x = true) (hline : (apos.endLine == cpos.line) = true) :
    PE X (.Call (.Attribute o name apos) es [] cpos) (tE X.K W (mthM m mo ms)) := by
  have h := mOf_mem hm
  have nil_ : es.length = 0 → es = [] := List.eq_nil_of_length_eq_zero
  have cons_ : ∀ n, es.length = n + 1 → ∃ e r, es = e :: r := fun n h => by
    cases es with
    | nil => simp at h
    | cons e r => exact ⟨e, r, rfl⟩
  have small : es.length < 20 := by
    simp only [mTab, List.mem_cons, Prod.mk.injEq, List.not_mem_nil, or_false] at h
    omega
  simp only [mTab, List.mem_cons, Prod.mk.injEq, List.not_mem_nil, or_false] at h
  rcases h with ⟨rfl, hl, rfl⟩ | ⟨rfl, hl, rfl⟩ | ⟨rfl, hl, rfl⟩ | ⟨rfl, hl, rfl⟩ | ⟨rfl, hl, rfl⟩ | ⟨rfl, hl, rfl⟩ | ⟨rfl, hl, rfl⟩ | ⟨rfl, hl, rfl⟩ | ⟨rfl, hl, rfl⟩ | ⟨rfl, hl, rfl⟩
  · obtain ⟨e, r, rfl⟩ := cons_ _ hl
    exact mth_one (id := "x") PySem.F.plainAttrs_list PySem.F.slot_list_append PySem.F.type_list_append mi_append ho ha hf hfs small hline (ty_lst (.inl rfl))
  · obtain ⟨e, r, rfl⟩ := cons_ _ hl
    exact mth_one (id := "x") PySem.F.plainAttrs_list PySem.F.slot_list_extend PySem.F.type_list_extend mi_extend ho ha hf hfs small hline (ty_lst (.inr (.inl rfl)))
  · have e := nil_ hl
    subst e
    rw [hnil rfl]
    exact mth_none PySem.F.plainAttrs_list PySem.F.slot_list_pop PySem.F.type_list_pop mi_pop0 ho hf hline (ty_lst (.inr (.inr rfl)))
  · obtain ⟨e, r, rfl⟩ := cons_ _ hl
    exact mth_one (id := "x") PySem.F.plainAttrs_dict PySem.F.slot_dict_pop PySem.F.type_dict_pop mi_pop1 ho ha hf hfs small hline (ty_dic (.inr (.inr (.inl rfl))))
  · obtain ⟨e, r, rfl⟩ := cons_ _ hl
    exact mth_one (id := "x") PySem.F.plainAttrs_dict PySem.F.slot_dict_pop PySem.F.type_dict_pop mi_pop2 ho ha hf hfs small hline (ty_dic (.inr (.inr (.inr rfl))))
  · obtain ⟨e, r, rfl⟩ := cons_ _ hl
    exact mth_one (id := "x") PySem.F.plainAttrs_dict PySem.F.slot_dict_get PySem.F.type_dict_get (mi_get1 hu) ho ha hf hfs small hline (ty_dic (.inl rfl))
  · obtain ⟨e, r, rfl⟩ := cons_ _ hl
    exact mth_one (id := "x") PySem.F.plainAttrs_dict PySem.F.slot_dict_get PySem.F.type_dict_get (mi_get2 hu) ho ha hf hfs small hline (ty_dic (.inr (.inl rfl)))
  · obtain ⟨e, r, rfl⟩ := cons_ _ hl
    exact mth_index hu ho ha hf hfs small hline
  · obtain ⟨e, r, rfl⟩ := cons_ _ hl
    exact mth_one (id := "x") PySem.F.plainAttrs_str PySem.F.slot_str_join PySem.F.type_str_join mi_join ho ha hf hfs small hline (ty_str (.inl rfl))
  · have e := nil_ hl
    subst e
    rw [hnil rfl]
    exact mth_none PySem.F.plainAttrs_str PySem.F.slot_str_upper PySem.F.type_str_upper mi_upper ho hf hline (ty_str (.inr rfl))
end
end Pv
set_option Elab.async false
set_option linter.all false
set_option maxRecDepth 100000
set_option maxHeartbeats 2000000
/-! every expression -/
namespace Pv
open PySem PySem.Spec PyProof.Rows L2
section
variable {X : Cx} {W : WX} {a : Expr} {ma : Env → Store → R D} {pos p p2 : Pos}
def tyN : Ty → String
  | .int => "int" | .bool => "bool" | .str => "str" | .tuple => "tuple" | .list => "list" | .dict => "dict"
theorem tyOf_name {x : Str} {t : Ty} (h : tyOf x = some t) : x = Str.ofString (tyN t) ∧ bootBuiltins x = some (.type (tyN t)) ∧ x ≠ "__name__" ∧ (x == ("__debug__" : Str)) = false ∧ x ∈ bNames := by
  unfold tyOf at h
  split at h
  · rename_i e; cases h; subst e; exact ⟨rfl, by decide +kernel, by decide, by decide, by decide⟩
  split at h
  · rename_i e; cases h; subst e; exact ⟨rfl, by decide +kernel, by decide, by decide, by decide⟩
  split at h
  · rename_i e; cases h; subst e; exact ⟨rfl, by decide +kernel, by decide, by decide, by decide⟩
  split at h
  · rename_i e; cases h; subst e; exact ⟨rfl, by decide +kernel, by decide, by decide, by decide⟩
  split at h
  · rename_i e; cases h; subst e; exact ⟨rfl, by decide +kernel, by decide, by decide, by decide⟩
  split at h
  · rename_i e; cases h; subst e; exact ⟨rfl, by decide +kernel, by decide, by decide, by decide⟩
  · cases h
theorem isiD_ty {as : List Addr} {H : Hp} {S : Store} (rel : RelS X.K as H S) {d : D} {v : V} {t : Ty} {b : Bool} (hv : RepV X.K as H d v) (h : isiD d t S = some b) : ∃ u, TyX X.K H v u ∧ PySem.W.kitOne X.K u (.type (tyN t)) = some b := by
  cases d with
  | non =>
    simp only [RepV] at hv; subst hv
    simp only [isiD, Option.some.injEq] at h; subst h
    exact ⟨_, .base .non, by cases t <;> exact kit_ty (by decide +kernel)⟩
  | bl c =>
    simp only [RepV] at hv; subst hv
    simp only [isiD, Option.some.injEq] at h; subst h
    exact ⟨_, .base (.bl c), by cases t <;> exact kit_ty (by decide +kernel)⟩
  | int c =>
    simp only [RepV] at hv; subst hv
    simp only [isiD, Option.some.injEq] at h; subst h
    exact ⟨_, .base (.int c), by cases t <;> exact kit_ty (by decide +kernel)⟩
  | str c =>
    simp only [RepV] at hv; obtain ⟨rfl, _⟩ := hv
    simp only [isiD, Option.some.injEq] at h; subst h
    exact ⟨_, .base (.str c), by cases t <;> exact kit_ty (by decide +kernel)⟩
  | tup ds =>
    simp only [RepV] at hv
    obtain ⟨a, vs, rfl, hq, _⟩ := hv
    simp only [isiD, Option.some.injEq] at h; subst h
    refine ⟨.type "tuple", ?_, by cases t <;> exact kit_ty (by decide +kernel)⟩
    rcases hq with (hq | ⟨o, hq⟩) | ⟨o, its, n, hq, hc, _⟩
    · exact .base (.tup hq)
    · exact .fTuple hq
    · exact .kTuple hq hc
  | fzl ds =>
    simp only [RepV] at hv
    obtain ⟨a, vs, rfl, hq, _⟩ := hv
    simp only [isiD, Option.some.injEq] at h; subst h
    refine ⟨.type "list", ?_, by cases t <;> exact kit_ty (by decide +kernel)⟩
    rcases hq with ⟨o, hq⟩ | ⟨o, its, n, hq, hc, _⟩
    · exact .base (.frz hq)
    · exact .kList hq hc
  | ref r =>
    simp only [RepV] at hv
    obtain ⟨a, rfl, ha⟩ := hv
    simp only [isiD] at h
    cases e : S[r]? with
    | none => rw [e] at h; cases h
    | some c =>
      rw [e] at h
      cases c with
      | lst xs =>
        simp only [Option.some.injEq] at h; subst h
        obtain ⟨vs, z1, _⟩ := rel.cell r _ a e ha
        exact ⟨.type "list", .base (.lst z1), by cases t <;> exact kit_ty (by decide +kernel)⟩
      | dic lk kvs =>
        simp only [Option.some.injEq] at h; subst h
        refine ⟨.type "dict", ?_, by cases t <;> exact kit_ty (by decide +kernel)⟩
        cases lk with
        | false => obtain ⟨ks, z1, _⟩ := rel.cell r _ a e ha; exact .base (.dK z1)
        | true => obtain ⟨o, ks, z1, _⟩ := rel.cell r _ a e ha; exact .fDict z1
      | ins c fs => cases h
theorem se_isi {x : Str} {t : Ty} (ht : tyOf x = some t) (hg : Gl X "isinstance") (hm : X.mg "isinstance" = none) (hgx : Gl X x) (hmx : X.mg x = none) (ha : PE X a (tE X.K W ma)) (hf : Fine a = true) :
    PE X (.Call (.Name "isinstance" p) [a, .Name x p2] [] pos) (tE X.K W fun ρ S => (ma ρ S).bind fun y S1 => retB (isiD y t S1) S1) := by
  obtain ⟨_, hv, hn, hd, _⟩ := tyOf_name ht
  have h2 : PA X [.Name x p2] (tCons (tC (.ty (tyN t))) tNil) := pa_cons (pe_bltn (v := .ty (tyN t)) hgx hmx hv rfl hn hd) pa_nil
  refine PEwk (pe_callB call_isi hg hm (by decide +kernel) (pa_cons ha h2 (fine_star hf _ _)) (by decide) (by decide) (fine_star hf _ _) (by rfl)) fun σ H Q ⟨ρ, S, as, rel, env, q⟩ => ?_
  refine tE_then rel env q fun v H1 d S1 as1 rel1 env1 up1 hx _ q1 => ?_
  obtain ⟨b, hb⟩ := retB_some q1
  obtain ⟨u, h3, h4⟩ := isiD_ty rel1 hx hb
  exact ⟨v, .ty (tyN t), u, .type (tyN t), b, rfl, .ty _, h3, h4, here_bl q1 rel1 hb⟩
end

/-! ### names -/
theorem ixOf_get {x : Str} : ∀ {N : List Str} {i : Nat}, ixOf x N = some i → N[i]? = some x
  | [], _, h => by simp [ixOf] at h
  | y :: r, i, h => by
    unfold ixOf at h
    split at h
    · rename_i e; cases h; simp [e]
    · rw [Option.map_eq_some_iff] at h
      obtain ⟨j, h, rfl⟩ := h
      simpa using ixOf_get h
theorem vis_of {k : Option NameKind} (h : visB k = true) : k = some .local ∨ k = some .cell ∨ k = some .free := by
  cases k with
  | none => cases h
  | some k => cases k <;> first | exact .inl rfl | exact .inr (.inl rfl) | exact .inr (.inr rfl) | cases h
theorem slot_ok {c : Sc} {X : Cx} {x : Str} {i : Nat} (h : slotOf c x = some i) (hs : X.env.scope = c.sc) (hN : X.N = c.N) : X.N[i]? = some x ∧ Vis X.env.scope x ∧ (x == ("__debug__" : Str)) = false ∧ (x == ("__classdict__" : Str)) = false := by
  unfold slotOf at h
  split at h
  · rename_i z
    refine ⟨by rw [hN]; exact ixOf_get h, ?_, z.2.1, z.2.2⟩
    rw [hs]
    exact vis_of z.1
  · cases h
theorem gl_ok {c : Sc} {X : Cx} {x : Str} (h : glB c x = true) (hs : X.env.scope = c.sc) : Gl X x ∧ (x == ("__debug__" : Str)) = false := by
  unfold glB at h
  rw [Bool.and_eq_true] at h
  refine ⟨?_, by simpa using h.2⟩
  show X.env.scope.names.lookup x = _
  rw [hs]
  exact of_decide_eq_true h.1
theorem tgName_ok {c : Sc} {X : Cx} {e : Expr} {i : Nat} (h : tgName c e = some i) (hs : X.env.scope = c.sc) (hN : X.N = c.N) (hf : X.fn = c.fn) : ∃ x p, e = .Name x p ∧ Stor X i x := by
  unfold tgName at h
  split at h
  · rename_i x p
    split at h
    · rename_i z
      refine ⟨x, p, rfl, by rw [hN]; exact ixOf_get h, ?_, ?_⟩
      · unfold L2.Loc
        rw [hs]
        rcases z with z | z
        · exact .inl z
        · exact .inr z.1
      · rw [hs, hf]
        rcases z with z | z
        · exact .inr z
        · exact .inl z.2
    · cases h
  · cases h
theorem compTg_ok {c : Sc} {X : Cx} {e : Expr} {t : Tg} (h : compTg c e = some t) (hc : X.calm = true) (nd : X.N.Nodup) (hs : X.env.scope = c.sc) (hN : X.N = c.N) (hf : X.fn = c.fn) : PG X e (tG X.K t) := by
  refine pg_tg hc nd ?_
  unfold compTg at h
  split at h
  · rename_i x p
    rw [Option.map_eq_some_iff] at h
    obtain ⟨i, h, rfl⟩ := h
    obtain ⟨y, q, e, st⟩ := tgName_ok h hs hN hf
    cases e
    exact .inl ⟨x, p, i, rfl, rfl, st⟩
  · rename_i es k p
    rw [Option.map_eq_some_iff] at h
    obtain ⟨is, h, rfl⟩ := h
    refine .inr ⟨es, k, p, is, rfl, rfl, ?_⟩
    have go : ∀ (es : List Expr) (is : List Nat), es.mapM (tgName c) = some is → is.length = es.length ∧ ∀ j (h : j < es.length), ∃ i x p, is[j]? = some i ∧ es[j] = .Name x p ∧ Stor X i x := by
      intro es
      induction es with
      | nil =>
        intro is h
        simp only [List.mapM_nil] at h
        cases h
        exact ⟨rfl, fun j hj => by simp at hj⟩
      | cons e es ih =>
        intro is h
        simp only [List.mapM_cons] at h
        cases e1 : tgName c e with
        | none => rw [e1] at h; cases h
        | some i =>
          cases e2 : es.mapM (tgName c) with
          | none => rw [e1, e2] at h; cases h
          | some js =>
            rw [e1, e2] at h
            cases h
            obtain ⟨i1, i2⟩ := ih js e2
            obtain ⟨x, p, e3, st⟩ := tgName_ok e1 hs hN hf
            refine ⟨by rw [List.length_cons, List.length_cons, i1], fun j hj => ?_⟩
            cases j with
            | zero => exact ⟨i, x, p, rfl, e3, st⟩
            | succ j =>
              obtain ⟨i', x', p', a1, a2, a3⟩ := i2 j (by simpa using hj)
              exact ⟨i', x', p', by simpa using a1, by simpa using a2, a3⟩
    exact go es is h
  · cases h
theorem bTab_ok : ∀ p ∈ bTab, bootBuiltins p.1 = some (bval p.2.2) ∧ p.1 ≠ ("__name__" : Str) ∧ (p.1 == ("__debug__" : Str)) = false ∧ p.1 ∈ bNames := by
  intro p hp
  simp only [bTab, List.mem_cons, List.not_mem_nil, or_false] at hp
  rcases hp with rfl | rfl | rfl | rfl | rfl | rfl | rfl | rfl | rfl | rfl | rfl | rfl | rfl | rfl | rfl <;> exact ⟨by decide +kernel, by decide, by decide, by decide⟩

/-- the block of a comprehension is as good -/
theorem Good.blk {g : Cfg} {k F : Nat} {X : Cx} {W : WX} (G : Good g k F X W) (s : Shared) (H : Hp) (scope : Scope) (cl : List (Str × Addr)) (C : Addr) (fp : List Addr) : Good g k F (X.blk s H scope (compEnvC scope cl C X.env) fp) (fun _ _ _ _ => False) :=
  ⟨G.calm, G.nd, G.room, G.grd, takes0, G.own, G.blt, G.glb⟩
theorem noIf_split (e : Expr) : (∃ a p, e = .UnaryOp .Not a p) ∨ (∃ op vs p, e = .BoolOp op vs p) ∨ (∃ t a b p, e = .IfExp t a b p) ∨ (∃ a ops cs p, e = .Compare a ops cs p) ∨ ∀ env whole, isTrue e env whole = (do let v ← whole; standAt e.pos; holding [v] (truthy v)) := by
  cases e
  case UnaryOp op a p => cases op <;> first | exact .inl ⟨_, _, rfl⟩ | exact .inr (.inr (.inr (.inr fun _ _ => rfl)))
  case BoolOp op vs p => exact .inr (.inl ⟨_, _, _, rfl⟩)
  case IfExp => exact .inr (.inr (.inl ⟨_, _, _, _, rfl⟩))
  case Compare => exact .inr (.inr (.inr (.inl ⟨_, _, _, _, rfl⟩)))
  all_goals exact .inr (.inr (.inr (.inr fun _ _ => rfl)))
end Pv
set_option Elab.async false
set_option linter.all false
set_option maxRecDepth 100000
set_option maxHeartbeats 1000000
/-! for x in reversed(a text) -/
namespace RS
open PySem PySem.Spec PyProof.Rows RT
theorem norev_str : typeLookup (.type "str") "__reversed__" = pure none := by rw [typeLookup_type, builtinLookup_eq_fast]; kernel_rfl
theorem get_str : typeLookup (.type "str") "__getitem__" = pure (some (.builtin "str.__getitem__")) := by rw [typeLookup_type, builtinLookup_eq_fast]; kernel_rfl
def rsObj (z : Str) (t : Tok) (i : Int) : Obj := { cls := .type "reversed", data := .fields #[.str z t, rawInt i] }
def IsRs (h : Heap) (a : Addr) (z : Str) (t : Tok) (i : Int) : Prop := ∃ o, h.get? a = some o ∧ o.cls = .type "reversed" ∧ o.data = .fields #[.str z t, rawInt i]
theorem IsRs.at {h h' : Heap} {a : Addr} {z : Str} {t : Tok} {i : Int} (x : IsRs h a z t i) (e : ∀ o, h.get? a = some o → h'.get? a = some o) : IsRs h' a z t i := let ⟨o, ho, r⟩ := x; ⟨o, e _ ho, r⟩
section
variable {prog : Program} {w : World} {A : Around} {E : Value → Shared → Prop} {s : Shared} {z : Str} {t : Tok}
theorem IsRs.typeIs {a : Addr} {i : Int} (x : IsRs s.heap a z t i) : s.TypeIs (.ref a) "reversed" := let ⟨o, ho, hc, _⟩ := x; ⟨o, ho, hc⟩
theorem code_reversed_str {Q₁ : Value → Shared → Prop} (hz : z.length ≤ sizeLine)
    (h : Q₁ (.ref s.heap.objs.size) { s with heap := s.heap.push (rsObj z t ((z.length : Int) - 1)), toks := s.toks + 1 + 1 }) :
    codeAny (model prog w) A (.call (.builtin "reversed.__new__") ⟨[.type "reversed", .str z t], []⟩) (wants Q₁ E) s := by
  have hT : s.TypeIs (.str z t) "str" := typeIs_str s z t
  have hz' : ¬ (z.length : Int) ≥ 2 ^ 63 := by
    rw [sizeLine_eq] at hz
    omega
  refine codeAny_of_tree ?_
  show wpAny _ A.in1 (do checkBuiltinCall "reversed.__new__" ⟨[.type "reversed", .str z t], []⟩; again (.builtin "reversed.__new__" ⟨[.type "reversed", .str z t], []⟩)) _ _ s
  refine wpAny_bind (wpAny_of_eq (F.newCall_reversed_1 _) (wpAny_pure ⟨plainId_quiet F.plain_reversed_new _, codeAny_builtin F.entry_reversed_new ?_⟩))
  rw [Around.under_plainId F.plain_reversed_new _]
  unfold Builtin.«reversed.__new__»
  refine wpAny_bind (wpAny_of_eq (newClass_reversed _) ?_)
  try dsimp only
  refine wpAny_bind (wpAny_of_eq (a := ()) (by first | rfl | kernel_rfl) ?_)
  try dsimp only
  refine wpAny_bind (wpAny_of_eq (a := ()) (by first | rfl | kernel_rfl) ?_)
  try dsimp only
  refine wpAny_bind (wpAny_specialOf hT norev_str ?_)
  try dsimp only
  refine wpAny_bind ?_
  wp_delta
  refine wpAny_bind (wpAny_isInstance (T := "str") (U := "dict") (b := false) hT PySem.F.sub_str_dict ?_)
  try dsimp only
  try rw [if_neg Bool.false_ne_true]
  try dsimp only
  refine wpAny_bind (wpAny_specialOf hT get_str ?_)
  try dsimp only
  try rw [if_pos (by decide +kernel)]
  refine wpAny_pure ?_
  try dsimp only
  try rw [if_neg (by decide)]
  try dsimp only
  refine wpAny_bind (PySem.P.len_str hz' ?_)
  refine wpAny_bind (wpAny_of_eq (a := some ((z.length : Nat) : Int)) rfl ?_)
  try dsimp only
  refine wpAny_bind ?_
  show wpAny _ _ (newObj (.type "reversed") (.fields #[.str z t, rawInt ((z.length : Int) - 1)])) _ _ _
  refine wpAny_newObj_type ?_
  exact wpAny_pure h
theorem call_reversed_str {Q : Value → Shared → Prop} (hz : z.length ≤ sizeLine)
    (h : Q (.ref s.heap.objs.size) { s with heap := s.heap.push (rsObj z t ((z.length : Int) - 1)), toks := s.toks + 1 + 1 }) : wpAny (model prog w) A (call (.type "reversed") [.str z t]) Q E s := by
  refine callType_codes (Q₁ := fun obj s₁ => s₁.TypeIs obj "reversed" ∧ Q obj s₁) called_rt (F.typeCall_reversed_1 _) F.entry_object_init
    (code_reversed_str (A := A.in1) hz ⟨⟨_, Heap.get?_push_size _ rfl, rfl⟩, h⟩) fun obj s₁ h₁ => ?_
  exact ⟨h₁.1, F.args_object_init_2 obj _, object_init_meets called_rt.init.lookup called_rt.made (by decide) prog w A.in1 _ s₁ ⟨h₁.1, rfl, h₁.2⟩⟩
theorem next_rs_item {it : Addr} {i c : Nat} {Q : Option Value → Shared → Prop} (hit : IsRs s.heap it z t (i : Int)) (hx : z.cps[i]? = some c) (hsz : z.length ≤ sizeLine)
    (hQ : ∀ h' tk t', IsRs h' it z t ((i : Int) - 1) → Heap.SameBut it s.heap h' → Q (some (.str ⟨#[c]⟩ t')) { s with heap := h', toks := tk }) : wpAny (model prog w) A (pyNext (.ref it)) Q E s := by
  obtain ⟨o, ho, hc, hd⟩ := id hit
  have hi : i < z.cps.size := (Array.getElem?_eq_some_iff.mp hx).1
  have hi' : i < z.length := hi
  have hT : s.TypeIs (.str z t) "str" := typeIs_str s z t
  rw [sizeLine_eq] at hsz
  unfold pyNext
  refine wpAny_bind (wpAny_attempt (wpAny_callSpecial?_slot (name := Str.ofString "__next__") hit.typeIs slot_rt_next
    (wpAny_call_entry slot_rt_next hit.typeIs entry_rt_next ?_ (args_rt_next _))))
  unfold Builtin.«reversed.__next__»
  refine wpAny_bind (wpAny_of_eq (a := (Value.ref it, [])) rfl ?_)
  try dsimp only
  refine wpAny_bind (wpAny_field ho hd (x := .str z t) rfl ?_)
  try dsimp only
  refine wpAny_bind (wpAny_field ho hd (x := rawInt (i : Int)) rfl ?_)
  show wpAny _ _ (if (i : Int) < 0 then _ else _) _ _ s
  rw [if_neg (by omega)]
  try dsimp only
  refine wpAny_bind (wpAny_specialOf hT get_str ?_)
  try dsimp only
  try rw [if_neg (by decide)]
  try dsimp only
  refine wpAny_bind (wpAny_mkInt ?_)
  refine wpAny_bind (wpAny_attempt ?_)
  have fin : seqIndex? (i : Int) z.length = some i := seqIndex_of (by omega) (by omega)
  refine getItem_str (c := c) (s := { s with toks := s.toks + 1 }) (by
    have e1 : decide ((i : Int) < -(2 ^ 63 : Int)) = false := decide_eq_false (by omega)
    have e2 : decide ((i : Int) ≥ 2 ^ 63) = false := decide_eq_false (by omega)
    rw [e1, e2, Bool.or_false]) (by rw [fin]; simpa using hx) ?_
  try dsimp only
  refine wpAny_bind (wpAny_field (s := { s with toks := s.toks + 1 + 1 }) ho hd (x := rawInt (i : Int)) rfl ?_)
  try dsimp only
  refine wpAny_bind (wpAny_setField (s := { s with toks := s.toks + 1 + 1 }) ho hd (by simp) ?_)
  first
  | refine wpAny_pure ⟨_, rfl, wpAny_pure (hQ _ _ _ ?_ (Heap.SameBut.update ..))⟩
  | refine wpAny_bind (wpAny_pure (wpAny_pure ⟨_, rfl, wpAny_pure (hQ _ _ _ ?_ (Heap.SameBut.update ..))⟩))
  exact ⟨_, Heap.get?_update_self _ ho (Obj.isFreed_of_fields (Obj.data_mapFields hd _)), (Obj.cls_mapFields ..).trans hc, by
    rw [Obj.data_mapFields hd]; simp⟩
theorem next_rs_end {it : Addr} {Q : Option Value → Shared → Prop} (hh : A.handled = none) (hit : IsRs s.heap it z t (-1))
    (hQ : ∀ h', Heap.ExtBut it s.heap h' → Q none { s with heap := h' }) : wpAny (model prog w) A (pyNext (.ref it)) Q E s := by
  obtain ⟨o, ho, hc, hd⟩ := id hit
  unfold pyNext
  refine wpAny_bind (wpAny_attempt (wpAny_callSpecial?_slot (name := Str.ofString "__next__") hit.typeIs slot_rt_next
    (wpAny_call_entry slot_rt_next hit.typeIs entry_rt_next ?_ (args_rt_next _))))
  unfold Builtin.«reversed.__next__»
  refine wpAny_bind (wpAny_of_eq (a := (Value.ref it, [])) rfl ?_)
  try dsimp only
  refine wpAny_bind (wpAny_field ho hd (x := .str z t) rfl ?_)
  try dsimp only
  refine wpAny_bind (wpAny_field ho hd (x := rawInt (-1)) rfl ?_)
  show wpAny _ _ (if (-1 : Int) < 0 then _ else _) _ _ s
  rw [if_pos (by decide)]
  try dsimp only
  refine wpAny_bind (wpAny_rule ?_)
  refine wpAny_bind ?_
  wp_delta
  refine wpAny_bind (wpAny_setField ho hd (by simp) ?_)
  have ho2 := Heap.get?_update_self (Obj.mapFields (·.setIfInBounds 1 (rawInt (-1)))) ho (Obj.isFreed_of_fields (Obj.data_mapFields hd _))
  refine wpAny_setField (s := { s with heap := s.heap.update it (Obj.mapFields (·.setIfInBounds 1 (rawInt (-1)))) }) ho2 (Obj.data_mapFields hd _) (by simp) ?_
  try dsimp only
  first
  | show wpAny _ _ (newExc (.type "StopIteration") [] >>= _) _ _ _
  | (refine wpAny_bind ?_; show wpAny _ _ (newExc (.type "StopIteration") [] >>= _) _ _ _)
  | (refine wpAny_bind ?_; wp_delta; show wpAny _ _ (newExc (.type "StopIteration") [] >>= _) _ _ _)
  refine wpAny_bind ?_
  simp only [newExc, newTuple]
  refine wpAny_bind (wpAny_newObj_type ?_ (by size_fits))
  refine wpAny_bind (m := firstArgMember _ _) (wpAny_of_eq (a := Value.none) (by first | rfl | (simp only [firstArgMember]; rfl)) ?_)
  refine wpAny_newObj_type ?_ (by size_fits)
  simp only [raiseNew]
  refine wpAny_bind (wpAny_handled ?_)
  first | rw [show A.in1.handled = none from hh] | rw [hh]
  refine wpAny_bind (wpAny_pure (wpAny_throw ?_))
  refine wpAny_bind (wpAny_isInstance (T := "StopIteration") (b := true) ⟨_, Heap.get?_push_size _ rfl, rfl⟩ isSubtype_stop ?_)
  refine wpAny_pure (hQ _ ?_)
  refine ((?_ : Heap.ExtBut it s.heap _).push _).push _
  exact fun b ob hb e => (Heap.get?_update_other _ _ (Ne.symm hb)).trans ((Heap.get?_update_other _ _ (Ne.symm hb)).trans e)
theorem iter_rs {it : Addr} {i : Int} {Q : Value → Shared → Prop} (hit : IsRs s.heap it z t i) (h : Q (.ref it) s) : wpAny (model prog w) A (pyIter (.ref it)) Q E s := by
  refine wpAny_pyIter_slot hit.typeIs slot_rt_iter (wpAny_call_entry slot_rt_iter hit.typeIs entry_rt_iter ?_ (args_rt_iter _))
  show wpAny _ _ (ret (.ref it)) _ _ s
  exact wpAny_pure ⟨_, rfl, "reversed", _, hit.typeIs, slot_rt_next.lookup, h⟩
end
open L2
def ItsR (x : Str) : It := ⟨fun i _ => i < x.cps.size, fun i H v H' => H' = H ∧ ∃ c, x.cps[x.cps.size - 1 - i]? = some c ∧ v = .str ⟨#[c]⟩, fun i _ => x.cps.size ≤ i⟩
theorem turn_rs {P : Program} {w : World} {K : PySem.W.Frag} {tg : Expr} (it : Addr) (z : Str) (t : Tok) (hz : z.length ≤ sizeLine) : Turn P w K tg (ItsR z) [it] it (fun i h => i ≤ z.cps.size ∧ IsRs h it z t ((z.cps.size : Int) - 1 - (i : Nat))) where
  mem := by simp
  obj := fun i h st b hb => by
    have e : b = it := by simpa using hb
    subst e
    obtain ⟨_, o, e, c, d⟩ := st
    exact ⟨o, e, fun v z => by rw [d] at z; cases z⟩
  keep := fun i h h' st k => ⟨st.1, st.2.at fun o e => k it (by simp) o e⟩
  item := by
    intro X hP hw hK hc i pins s σ H E I hf st hg
    subst hP hw hK
    have hin : i < z.cps.size := hg
    obtain ⟨f0, f1, f2, f3, f4, f5⟩ := hf it (by simp)
    obtain ⟨_, hit⟩ := st
    have e1 : (z.cps.size : Int) - 1 - ((i : Nat) : Int) = ((z.cps.size - 1 - i : Nat) : Int) := by omega
    rw [e1] at hit
    have hx : z.cps[z.cps.size - 1 - i]? = some z.cps[z.cps.size - 1 - i] := Array.getElem?_eq_getElem (by omega)
    refine next_rs_item hit hx hz fun h' tk t' st' sb => ?_
    have e2 : ((z.cps.size - 1 - i : Nat) : Int) - 1 = (z.cps.size : Int) - 1 - ((i + 1 : Nat) : Int) := by omega
    rw [e2] at st'
    have I1 : Inv X pins σ H { s with heap := h', toks := tk } := I.turned (t' := tk) (fun b o hb e => (sb.2 b hb).trans e) f0 f1 f3 f4 f5
    obtain ⟨o, e, c, d⟩ := id st'
    exact ⟨_, rfl, go_of (s := { s with heap := h', toks := tk }) e c d (by decide) ⟨.str ⟨#[_]⟩, H, I1, ⟨t', rfl⟩, ⟨rfl, _, hx, rfl⟩, ⟨hin, st'⟩, fun b hb => (hf b hb).1⟩⟩
  done := by
    intro X hP hw hK hc i pins s σ H E I hf st hg
    subst hP hw hK
    obtain ⟨f0, f1, f2, f3, f4, f5⟩ := hf it (by simp)
    obtain ⟨hin, hit⟩ := st
    have hge : z.cps.size ≤ i := hg
    have e1 : (z.cps.size : Int) - 1 - ((i : Nat) : Int) = -1 := by omega
    rw [e1] at hit
    exact next_rs_end (I.ok.hd hc) hit fun h' eb => ⟨rfl, I.turned (t' := s.toks) (fun b o hb e => eb b o hb e) f0 f1 f3 f4 f5⟩
  self := fun A i s Q E st h => iter_rs st.2 h
def iRevS (te : TE) : TI := fun σ H R => te σ H fun v H1 => ∃ z : Str, v = .str z ∧ z.length ≤ sizeLine ∧ R (ItsR z) H1
section
variable {X : Cx} {tg : Expr}
theorem pi_revS {e : Expr} {te : TE} {p pos : Pos} (hg : Gl X "reversed") (hm : X.mg "reversed" = none) (he : PE X e te) (hs : starEach [e] X.env = (false, eval e X.env) :: starEach [] X.env) : PI X tg (.Call (.Name "reversed" p) [e] [] pos) (iRevS te) := by
  refine ⟨fun pins s σ H R I h => ?_⟩
  refine Call_ (ld_blt I hg hm PyProof.Rows.boot_reversed (PyProof.Rows.callWith_type1 (args_cons (thn (he.run pins s σ H _ I h) fun u s1 ⟨v, H1, I1, r1, q1⟩ => args_nil ?_) hs) hs rfl))
  obtain ⟨z, ev, hz, q⟩ := q1
  subst ev
  obtain ⟨t, rfl⟩ := r1
  have e1 : ((z.length : Nat) : Int) - 1 = (z.cps.size : Int) - 1 - ((0 : Nat) : Int) := by
    have : z.length = z.cps.size := rfl
    omega
  refine call_reversed_str hz (iter_rs (z := z) (t := t) (i := (z.length : Int) - 1) ⟨_, Heap.get?_push_size _ rfl, rfl, rfl⟩ ?_)
  refine pi_one (tk := s1.toks + 1 + 1) I1 _ (turn_rs _ z t hz) ⟨Nat.zero_le _, ?_⟩ q
  rw [← e1]
  exact ⟨_, Heap.get?_push_size _ rfl, rfl, rfl⟩
end
end RS
set_option Elab.async false
set_option linter.all false
set_option maxRecDepth 100000
set_option maxHeartbeats 4000000
/-! every expression that is compiled is run so -/
namespace Pv
open PySem PySem.Spec PyProof.Rows L2
section
variable {X : Cx} {W : WX} {e tg : Expr} {es : List Expr}
theorem PEeq {m m' : Env → Store → R D} (h : PE X e (tE X.K W m)) (q : ∀ ρ S, m' ρ S = m ρ S) : PE X e (tE X.K W m') := by
  have : m' = m := by funext ρ S; exact q ρ S
  rw [this]; exact h
theorem PTeq {m m' : Env → Store → R D} (h : PT X e (tT X.K W m)) (q : ∀ ρ S, m' ρ S = m ρ S) : PT X e (tT X.K W m') := by
  have : m' = m := by funext ρ S; exact q ρ S
  rw [this]; exact h
theorem PWeq {m m' : Env → Store → R D} (h : PW X e (tT X.K W m)) (q : ∀ ρ S, m' ρ S = m ρ S) : PW X e (tT X.K W m') := by
  have : m' = m := by funext ρ S; exact q ρ S
  rw [this]; exact h
theorem PAeq {m m' : Env → Store → R (List D)} (h : PA X es (tAs X.K W m)) (q : ∀ ρ S, m' ρ S = m ρ S) : PA X es (tAs X.K W m') := by
  have : m' = m := by funext ρ S; exact q ρ S
  rw [this]; exact h
theorem POeq {o : Option Expr} {m m' : Env → Store → R (Option Int)} (h : PO X o (tOp1 X.K W m)) (q : ∀ ρ S, m' ρ S = m ρ S) : PO X o (tOp1 X.K W m') := by
  have : m' = m := by funext ρ S; exact q ρ S
  rw [this]; exact h
theorem PIeq {m m' : Env → Store → R (List D × Option Nat)} (h : PI X tg e (tI X.K W m)) (q : ∀ ρ S, m' ρ S = m ρ S) : PI X tg e (tI X.K W m') := by
  have : m' = m := by funext ρ S; exact q ρ S
  rw [this]; exact h
theorem iter_rev {ds : List D} {S : Store} {p : List D × Option Nat} (h : iter .rev ds S = some p) : ∃ z, ds = [.str z] ∧ z.length ≤ sizeLine ∧ p = ((z.cps.toList.map sign).reverse, none) := by
  unfold iter at h
  split at h
  all_goals (try (rename_i z; cases z))
  · split at h
    · rename_i hl; cases h; exact ⟨_, rfl, hl, rfl⟩
    · cases h
  · cases h
theorem walks_rev {K : PySem.W.Frag} {as0 : List Addr} {H0 : Hp} {z : Str} (hz : PyData.strOk z = true) : Walks K (RS.ItsR z) ((z.cps.toList.map sign).reverse) none as0 H0 := fun as H S x r st => by
  refine ⟨fun i hi => ?_, fun i d hd => ?_⟩
  · show z.cps.size ≤ i
    simpa using hi
  · have hi : i < z.cps.size := by
      have := (List.getElem?_eq_some_iff.mp hd).1
      simpa using this
    rw [List.getElem?_reverse (by simpa using hi), List.getElem?_map, Option.map_eq_some_iff] at hd
    obtain ⟨c, hc, rfl⟩ := hd
    refine ⟨show i < z.cps.size from hi, fun y H' q => ?_⟩
    obtain ⟨rfl, c', h1, rfl⟩ := q
    have e : c = c' := by
      rw [List.length_map, Array.length_toList, Array.getElem?_toList] at hc
      rw [h1] at hc
      exact (Option.some.inj hc).symm
    subst e
    refine ⟨Ext.refl, r, ?_⟩
    simp only [sign, RepV]
    refine ⟨trivial, strOk_sub hz fun b hb => ?_⟩
    simp at hb
    subst hb
    exact List.mem_of_getElem? hc
theorem si_rev {a : Expr} {p pos : Pos} {ms : Env → Store → R (List D)} {ma : Env → Store → R D} (hms : ∀ ρ S, ms ρ S = one1 ma ρ S) (hg : Gl X "reversed") (hm : X.mg "reversed" = none) (ha : PE X a (tE X.K W ma)) (hs : starEach [a] X.env = (false, eval a X.env) :: starEach [] X.env) :
    PI X tg (.Call (.Name "reversed" p) [a] [] pos) (tI X.K W (itm .rev ms)) := by
  refine PIwk (RS.pi_revS hg hm ha hs) fun σ H R ⟨ρ, S, as, rel, env, q⟩ => ?_
  unfold itm at q
  rw [hms] at q
  unfold one1 at q
  have q' : Post X.K (EXW X.K W σ) as H ((ma ρ S).bind fun x S1 => match iter .rev [x] S1 with
    | some p => .ok p S1
    | none => .no) (fun p S' as' H' => stands p.2 p.1 S' → ∀ J, Walks X.K J p.1 p.2 as' H' → R J H') := by
    cases e1 : ma ρ S with
    | ok d S1 => rw [e1] at q; exact q
    | ex c fs S1 => rw [e1] at q; exact q
    | no => rw [e1] at q; exact q
  refine tE_then rel env q' fun v H1 d S1 as1 rel1 env1 up1 hv _ q1 => ?_
  cases e2 : iter .rev [d] S1 with
  | none => rw [e2] at q1; exact q1.elim
  | some p =>
    rw [e2] at q1
    obtain ⟨z, ez, hl, rfl⟩ := iter_rev e2
    cases ez
    simp only [RepV] at hv
    exact ⟨z, hv.1, hl, q1.here rel1 trivial _ (walks_rev hv.2)⟩
end
theorem lit_eq {s : String} {x : Str} (h : x = Str.ofString s) : x = (s : Str) := h
def esL : Es → List E
  | .nil => []
  | .cons e es => e :: esL es
theorem evs_len (cl : Cl) : ∀ (es : Es) (ρ : Env) (S : Store) (ds : List D) (S1 : Store), evs cl es ρ S = .ok ds S1 → ∃ n, ds.length = n ∧ n = (esL es).length
  | .nil, ρ, S, ds, S1, h => by simp only [evs] at h; cases h; exact ⟨0, rfl, rfl⟩
  | .cons e es, ρ, S, ds, S1, h => by
    simp only [evs] at h
    cases e1 : ev cl e ρ S with
    | no => rw [e1] at h; cases h
    | ex c fs S2 => rw [e1] at h; cases h
    | ok d S2 =>
      rw [e1] at h
      simp only [R.bind_ok] at h
      cases e2 : evs cl es ρ S2 with
      | no => rw [e2] at h; cases h
      | ex c fs S2 => rw [e2] at h; cases h
      | ok xs S3 =>
        rw [e2] at h
        cases h
        obtain ⟨n, h1, h2⟩ := evs_len cl es ρ S2 xs S1 e2
        exact ⟨n + 1, by rw [List.length_cons, h1], by rw [h2]; rfl⟩
theorem cEs_len {g : Cfg} : ∀ (n : Nat) {c : Sc} {es : List Expr} {mes : Es}, cEs g n c es = some mes → (esL mes).length = es.length ∧ (es = [] → mes = .nil) ∧ ∀ e ∈ es, Fine e = true
  | 0, _, _, _, h => by simp [cEs] at h
  | n + 1, c, [], mes, h => by simp only [cEs, Option.some.injEq] at h; subst h; exact ⟨rfl, fun _ => rfl, by simp⟩
  | n + 1, c, e :: es, mes, h => by
    simp only [cEs] at h
    split at h
    · rename_i e' r' h1 h2
      cases h
      obtain ⟨i1, i2, i3⟩ := cEs_len n h2
      refine ⟨(by show (esL r').length + 1 = _; rw [i1]; rfl), (fun z => by cases z), fun x hx => ?_⟩
      rcases List.mem_cons.mp hx with rfl | hx
      · exact cE_fine h1
      · exact i3 x hx
    · cases h
/-- what the induction carries -/
structure Snd (g : Cfg) (k F n : Nat) : Prop where
  e : ∀ (c : Sc) (e : Expr) (me : E), cE g n c e = some me → ∀ (X : Cx) (W : WX), Good g k F X W → X.env.scope = c.sc → X.N = c.N → X.fn = c.fn →
    PE X e (tE X.K W (ev (call g.T F k) me)) ∧ (noIf e = true → PT X e (tT X.K W (ev (call g.T F k) me))) ∧ ((∃ op vs p, e = .BoolOp op vs p) → PW X e (tT X.K W (ev (call g.T F k) me)))
  es : ∀ (c : Sc) (es : List Expr) (mes : Es), cEs g n c es = some mes → ∀ (X : Cx) (W : WX), Good g k F X W → X.env.scope = c.sc → X.N = c.N → X.fn = c.fn → PA X es (tAs X.K W (evs (call g.T F k) mes))
  o : ∀ (c : Sc) (o : Option Expr) (mo : Op), cO g n c o = some mo → ∀ (X : Cx) (W : WX), Good g k F X W → X.env.scope = c.sc → X.N = c.N → X.fn = c.fn → PO X o (tOp1 X.K W (evo (call g.T F k) mo))
section
variable {g : Cfg} {k F n : Nat} {c : Sc} {X : Cx} {W : WX}
theorem plainT {e : Expr} {m : Env → Store → R D} (h : PE X e (tE X.K W m)) (hb : ¬ ∃ op vs p, e = .BoolOp op vs p) (he : ∀ whole, isTrue e X.env whole = (do let v ← whole; standAt e.pos; holding [v] (truthy v))) :
    PE X e (tE X.K W m) ∧ (noIf e = true → PT X e (tT X.K W m)) ∧ ((∃ op vs p, e = .BoolOp op vs p) → PW X e (tT X.K W m)) := ⟨h, fun _ => pt_of h he, fun z => absurd z hb⟩
/-- what a for or a comprehension walks -/
theorem snd_iter (ih : ∀ m, m < n → Snd g k F m) {iter tg : Expr} {mi : Es} (h : cEs g n c (iterOf c iter).2 = some mi) (G : Good g k F X W) (hs : X.env.scope = c.sc) (hN : X.N = c.N) (hf : X.fn = c.fn) (hA : PA X (iterOf c iter).2 (tAs X.K W (evs (call g.T F k) mi))) :
    PI X tg iter (tI X.K W (itm (iterOf c iter).1 (evs (call g.T F k) mi))) ∧ ∀ x, foldedSetIterable iter X.env x = pure x := by
  have one : ∀ {e : Expr} {mi : Es}, cEs g n c [e] = some mi → PE X e (tE X.K W fun ρ S => match mi with
      | .cons e' _ => ev (call g.T F k) e' ρ S
      | .nil => .no) ∧ Fine e = true ∧ ∀ ρ S, evs (call g.T F k) mi ρ S = one1 (fun ρ S => match mi with
      | .cons e' _ => ev (call g.T F k) e' ρ S
      | .nil => .no) ρ S := fun {e mi} h => by
    have hfin := (cEs_len n h).2.2 e (by simp)
    cases n with
    | zero => simp [cEs] at h
    | succ n =>
      simp only [cEs] at h
      split at h
      · rename_i e' r' h1 h2
        cases h
        have e2 : r' = .nil := (cEs_len n h2).2.1 rfl
        subst e2
        exact ⟨((ih n (Nat.lt_succ_self n)).e c e e' h1 X W G hs hN hf).1, hfin, fun ρ S => by simp only [evs, one1]⟩
      · cases h
  have plain : ∀ {e : Expr} {mi : Es}, cEs g n c [e] = some mi → PI X tg e (tI X.K W (itm .plain (evs (call g.T F k) mi))) ∧ ∀ x, foldedSetIterable e X.env x = pure x := fun {e mi} h => by
    obtain ⟨h1, h2, h3⟩ := one h
    refine ⟨PIeq (si_plain h1) fun ρ S => ?_, fine_set h2 X.env⟩
    unfold itm
    rw [h3]
  have len : ∀ {es : List Expr} {mi : Es}, cEs g n c es = some mi → ∀ ρ S ds S1, evs (call g.T F k) mi ρ S = .ok ds S1 → ds.length = es.length := fun {es mi} h ρ S ds S1 q => by
    obtain ⟨j, h1, h2⟩ := evs_len _ mi ρ S ds S1 q
    rw [h1, h2, (cEs_len n h).1]
  unfold iterOf at h hA ⊢
  split at h
  · rename_i x p a q
    simp only at hA ⊢
    split at h
    · rename_i hx
      rw [if_pos hx] at hA ⊢
      obtain ⟨rfl, hg⟩ := hx
      obtain ⟨hg, hd⟩ := gl_ok hg hs
      have hfa := (cEs_len n h).2.2 a (by simp)
      exact ⟨si_rng1 (len h) hg (G.blt _ (by decide)) hA (fine_star hfa _ _), fun _ => rfl⟩
    · rename_i hx
      rw [if_neg hx] at hA ⊢
      split at h
      · rename_i hx2
        rw [if_pos hx2] at hA ⊢
        obtain ⟨rfl, hg⟩ := hx2
        obtain ⟨hg, hd⟩ := gl_ok hg hs
        obtain ⟨h1, h2, h3⟩ := one h
        exact ⟨si_rev h3 hg (G.blt _ (by decide)) h1 (fine_star h2 _ _), fun _ => rfl⟩
      · rename_i hx2
        rw [if_neg hx2]
        exact plain h
  · rename_i x p a b q
    simp only at hA ⊢
    split at h
    · rename_i hx
      rw [if_pos hx] at hA ⊢
      obtain ⟨rfl, hg⟩ := hx
      obtain ⟨hg, hd⟩ := gl_ok hg hs
      have hfa := (cEs_len n h).2.2 a (by simp)
      have hfb := (cEs_len n h).2.2 b (by simp)
      exact ⟨si_rng2 (len h) hg (G.blt _ (by decide)) hA ((fine_star hfa _ _).trans (by rw [fine_star hfb]; rfl)) (fine_star hfb _ _), fun _ => rfl⟩
    · rename_i hx
      rw [if_neg hx]
      exact plain h
  · exact plain h
end
noncomputable def mcOf (cl : Cl) : Op → Option (Env → Store → R D)
  | .no => none
  | .so d => some (ev cl d)
theorem ev_lc (cl : Cl) (e' : E) (t' : Tg) (ik : IK) (i' : Es) (cd : Op) (own : List Nat) (ρ : Env) (S : Store) : ev cl (.lc e' t' ik i' cd own) ρ S = lcM t' own (itm ik (evs cl i')) (ev cl e') (mcOf cl cd) ρ S := by
  simp only [ev, lcM, itm]
  cases evs cl i' ρ S with
  | no => rfl
  | ex c fs S1 => rfl
  | ok ds S1 =>
    simp only [R.bind_ok]
    cases iter' : Pv.iter ik ds S1 with
    | none => rfl
    | some q =>
      obtain ⟨xs, gd⟩ := q
      simp only [R.bind_ok]
      cases cd <;> rfl
theorem lc_parts {g : Cfg} {k F n : Nat} {c : Sc} {X : Cx} {W : WX} (ih : ∀ m, m < n + 1 → Snd g k F m) {elt tg iter : Expr} {scope : Scope} {t' : Tg} {i' : Es} {e' : E} {cd : Op} {ifs : List Expr} (h1 : compTg (blkSc c scope) tg = some t') (h2 : cEs g n c (iterOf c iter).2 = some i') (h3 : cE g n (blkSc c scope) elt = some e')
    (h4 : (tgSlots t').all (fun j => decide (j ∈ (ownOf c scope).map (·.2))) = true) (hb : blkC c.N c.sc scope (ownOf c scope) = true)
    (h5 : (cd = .no ∧ ifs = []) ∨ ∃ d d', cd = .so d' ∧ ifs = [d] ∧ noIf d = true ∧ cE g n (blkSc c scope) d = some d') (G : Good g k F X W) (hs : X.env.scope = c.sc) (hN : X.N = c.N) (hf : X.fn = c.fn) :
    LcP X W elt tg iter ifs scope (ownOf c scope) t' (itm (iterOf c iter).1 (evs (call g.T F k) i')) (ev (call g.T F k) e') (mcOf (call g.T F k) cd) := by
  have I := ih n (Nat.lt_succ_self n)
  obtain ⟨pi, hs2⟩ := snd_iter (tg := tg) (fun m hm => ih m (Nat.lt_succ_of_lt hm)) h2 G hs hN hf (I.es c _ _ h2 X W G hs hN hf)
  have bs : ∀ (s : Shared) (H : Hp) (C : Addr) (cl : List (Str × Addr)) (fp : List Addr), (X.blk s H scope (compEnvC scope cl C X.env) fp).env.scope = (blkSc c scope).sc := fun s H C cl fp => by
    show relS scope X.env.scope = relS scope c.sc
    rw [hs]
  refine ⟨pi, by rw [hN, hs]; exact blkOk_by hb, fun i hi => ?_, fun s H C cl fp => compTg_ok h1 G.calm G.nd (bs s H C cl fp) hN rfl, fun s H C cl fp => (I.e (blkSc c scope) _ _ h3 _ _ (G.blk s H scope cl C fp) (bs s H C cl fp) hN rfl).1, ?_, hs2⟩
  · rw [List.all_eq_true] at h4
    exact of_decide_eq_true (h4 i hi)
  · rcases h5 with ⟨rfl, rfl⟩ | ⟨d, d', rfl, rfl, hn, hd⟩
    · exact .inl ⟨rfl, rfl⟩
    · exact .inr ⟨d, _, rfl, rfl, fun s H C cl fp => (I.e (blkSc c scope) _ _ hd _ _ (G.blk s H scope cl C fp) (bs s H C cl fp) hN rfl).2.1 hn⟩
theorem sound_e (g : Cfg) (k F : Nat) : ∀ n, Snd g k F n := by
  intro n
  induction n using Nat.strongRecOn with
  | _ n ih =>
  cases n with
  | zero => exact ⟨fun c e me h => by simp [cE] at h, fun c e me h => by simp [cEs] at h, fun c e me h => by simp [cO] at h⟩
  | succ n =>
  have I := ih n (Nat.lt_succ_self n)
  refine ⟨fun c e me h X W G hs hN hf => ?_, fun c es mes h X W G hs hN hf => ?_, fun c o mo h X W G hs hN hf => ?_⟩
  · have hu := G.u65
    unfold cE at h
    split at h
    · cases h; exact plainT (PEeq se_int fun ρ S => by simp only [ev] <;> rfl) (fun z => by obtain ⟨_, _, _, z⟩ := z; cases z) (fun _ => rfl)
    · cases h; exact plainT (PEeq se_bl fun ρ S => by simp only [ev] <;> rfl) (fun z => by obtain ⟨_, _, _, z⟩ := z; cases z) (fun _ => rfl)
    · cases h; exact plainT (PEeq se_non fun ρ S => by simp only [ev] <;> rfl) (fun z => by obtain ⟨_, _, _, z⟩ := z; cases z) (fun _ => rfl)
    · split at h
      · rename_i hk
        cases h; exact plainT (PEeq (se_str hk) fun ρ S => by simp only [ev] <;> rfl) (fun z => by obtain ⟨_, _, _, z⟩ := z; cases z) (fun _ => rfl)
      · cases h
    · -- names
      rename_i x p
      split at h
      · rename_i i hi
        cases h
        obtain ⟨a1, a2, a3, a4⟩ := slot_ok hi hs hN
        exact plainT (PEeq (se_var a1 a2 a3 a4) fun ρ S => by simp only [ev] <;> rfl) (fun z => by obtain ⟨_, _, _, z⟩ := z; cases z) (fun _ => rfl)
      · split at h
        · rename_i hg
          rw [Option.map_eq_some_iff] at h
          obtain ⟨d, hl, rfl⟩ := h
          obtain ⟨hg, hd⟩ := gl_ok hg hs
          exact plainT (PEeq (se_glb G hg hd hl) fun ρ S => by simp only [ev] <;> rfl) (fun z => by obtain ⟨_, _, _, z⟩ := z; cases z) (fun _ => rfl)
        · cases h
    · -- binary
      split at h
      · split at h
        · rename_i a' b' h1 h2
          cases h
          exact plainT (PEeq (se_bin (I.e c _ _ h1 X W G hs hN hf).1 (I.e c _ _ h2 X W G hs hN hf).1) fun ρ S => by simp only [ev] <;> rfl) (fun z => by obtain ⟨_, _, _, z⟩ := z; cases z) (fun _ => rfl)
        · cases h
      · cases h
    · -- neg
      rw [Option.map_eq_some_iff] at h
      obtain ⟨a', h1, rfl⟩ := h
      exact plainT (PEeq (se_neg (I.e c _ _ h1 X W G hs hN hf).1) fun ρ S => by simp only [ev] <;> rfl) (fun z => by obtain ⟨_, _, _, z⟩ := z; cases z) (fun _ => rfl)
    · -- not
      split at h
      · rename_i hn
        rw [Option.map_eq_some_iff] at h
        obtain ⟨a', h1, rfl⟩ := h
        obtain ⟨i1, i2, _⟩ := I.e c _ _ h1 X W G hs hN hf
        exact ⟨PEeq (se_not i1) fun ρ S => by simp only [ev] <;> rfl, fun _ => PTeq (st_not (i2 hn)) fun ρ S => by simp only [ev] <;> rfl, fun z => by obtain ⟨_, _, _, z⟩ := z; cases z⟩
      · cases h
    · -- one part
      rename_i op a p
      split at h
      · rename_i hn
        obtain ⟨i1, i2, _⟩ := I.e c _ _ h X W G hs hN hf
        have hw : PW X (.BoolOp op [a] p) (tT X.K W (ev (call g.T F k) me)) := by
          cases op
          · exact pw_and1 (i2 hn)
          · exact pw_or1 (i2 hn)
        exact ⟨pe_one i1, fun _ => hw.pt, fun _ => hw⟩
      · cases h
    · -- and
      split at h
      · rename_i hn
        split at h
        · rename_i a' b' h1 h2
          cases h
          obtain ⟨i1, i2, _⟩ := I.e c _ _ h1 X W G hs hN hf
          obtain ⟨j1, j2, j3⟩ := I.e c _ _ h2 X W G hs hN hf
          have hw := st_and (i2 hn) (j3 ⟨_, _, _, rfl⟩)
          exact ⟨PEeq (se_and i1 j1) fun ρ S => by simp only [ev] <;> rfl, fun _ => PTeq hw.pt fun ρ S => by simp only [ev] <;> rfl, fun _ => PWeq hw fun ρ S => by simp only [ev] <;> rfl⟩
        · cases h
      · cases h
    · -- or
      split at h
      · rename_i hn
        split at h
        · rename_i a' b' h1 h2
          cases h
          obtain ⟨i1, i2, _⟩ := I.e c _ _ h1 X W G hs hN hf
          obtain ⟨j1, j2, j3⟩ := I.e c _ _ h2 X W G hs hN hf
          have hw := st_or (i2 hn) (j3 ⟨_, _, _, rfl⟩)
          exact ⟨PEeq (se_or i1 j1) fun ρ S => by simp only [ev] <;> rfl, fun _ => PTeq hw.pt fun ρ S => by simp only [ev] <;> rfl, fun _ => PWeq hw fun ρ S => by simp only [ev] <;> rfl⟩
        · cases h
      · cases h
    · -- if
      split at h
      · rename_i hn
        split at h
        · rename_i t' a' b' h0 h1 h2
          cases h
          exact ⟨PEeq (se_ite ((I.e c _ _ h0 X W G hs hN hf).2.1 hn) (I.e c _ _ h1 X W G hs hN hf).1 (I.e c _ _ h2 X W G hs hN hf).1) fun ρ S => by simp only [ev] <;> rfl, (fun z => by cases z), (fun z => by obtain ⟨_, _, _, z⟩ := z; cases z)⟩
        · cases h
      · cases h
    · -- compare
      split at h
      · rename_i a' b' h1 h2
        cases h
        have i1 := (I.e c _ _ h1 X W G hs hN hf).1
        have i2 := (I.e c _ _ h2 X W G hs hN hf).1
        exact ⟨PEeq (se_cmp hu i1 i2 (fine_marks (cE_fine h2) _)) fun ρ S => by simp only [ev] <;> rfl, fun _ => PTeq (st_cmp hu i1 i2 (fine_marks (cE_fine h2) _)) fun ρ S => by simp only [ev] <;> rfl, fun z => by obtain ⟨_, _, _, z⟩ := z; cases z⟩
      · cases h
    · -- chain
      split at h
      · rename_i a' b' d' h1 h2 h3
        cases h
        have i1 := (I.e c _ _ h1 X W G hs hN hf).1
        have i2 := (I.e c _ _ h2 X W G hs hN hf).1
        have i3 := (I.e c _ _ h3 X W G hs hN hf).1
        exact ⟨PEeq (se_chn hu i1 i2 i3 (fine_marks (cE_fine h3) _)) fun ρ S => by simp only [ev] <;> rfl, fun _ => PTeq (st_chn hu i1 i2 i3 (fine_marks (cE_fine h3) _)) fun ρ S => by simp only [ev] <;> rfl, fun z => by obtain ⟨_, _, _, z⟩ := z; cases z⟩
      · cases h
    · -- tuple
      rw [Option.map_eq_some_iff] at h
      obtain ⟨es', h1, rfl⟩ := h
      exact plainT (PEeq (se_tup (I.es c _ _ h1 X W G hs hN hf)) fun ρ S => by simp only [ev] <;> rfl) (fun z => by obtain ⟨_, _, _, z⟩ := z; cases z) (fun _ => rfl)
    · -- list
      rw [Option.map_eq_some_iff] at h
      obtain ⟨es', h1, rfl⟩ := h
      exact plainT (PEeq (se_lst (I.es c _ _ h1 X W G hs hN hf)) fun ρ S => by simp only [ev] <;> rfl) (fun z => by obtain ⟨_, _, _, z⟩ := z; cases z) (fun _ => rfl)
    · cases h
      exact plainT (PEeq se_dic0 fun ρ S => by simp only [ev] <;> rfl) (fun z => by obtain ⟨_, _, _, z⟩ := z; cases z) (fun _ => rfl)
    · -- the other way round
      rw [Option.map_eq_some_iff] at h
      obtain ⟨a', h1, rfl⟩ := h
      exact plainT (PEeq (se_rvs (I.e c _ _ h1 X W G hs hN hf).1) fun ρ S => by simp only [ev] <;> rfl) (fun z => by obtain ⟨_, _, _, z⟩ := z; cases z) (fun _ => rfl)
    · -- slice
      split at h
      · rename_i a' l' u' h1 h2 h3
        cases h
        exact plainT (PEeq (se_slc (I.e c _ _ h1 X W G hs hN hf).1 (I.o c _ _ h2 X W G hs hN hf) (I.o c _ _ h3 X W G hs hN hf)) fun ρ S => by simp only [ev] <;> rfl) (fun z => by obtain ⟨_, _, _, z⟩ := z; cases z) (fun _ => rfl)
      · cases h
    · -- place
      split at h
      · rename_i a' b' h1 h2
        cases h
        exact plainT (PEeq (se_sub hu (I.e c _ _ h1 X W G hs hN hf).1 (I.e c _ _ h2 X W G hs hN hf).1 (fine_ix (cE_fine h2))) fun ρ S => by simp only [ev] <;> rfl) (fun z => by obtain ⟨_, _, _, z⟩ := z; cases z) (fun _ => rfl)
      · cases h
    · -- call
      rename_i f pf a r p
      split at h
      · rename_i hg
        obtain ⟨hg, hd⟩ := gl_ok hg hs
        split at h
        · rename_i fn hl
          rw [Option.map_eq_some_iff] at h
          obtain ⟨es', h1, rfl⟩ := h
          have hfs := (cEs_len n h1).2.2
          exact plainT (PEeq (se_cal G hg hl (I.es c _ _ h1 X W G hs hN hf) hd (fine_star (hfs a (by simp)) _ _) (fine_plain _ _ fun x hx => hfs x (by simp [hx]))) fun ρ S => by simp only [ev] <;> rfl) (fun z => by obtain ⟨_, _, _, z⟩ := z; cases z) (fun _ => rfl)
        · split at h
          · rename_i hx
            subst hx
            split at h
            · rename_i t pt
              split at h
              · rename_i hgt
                obtain ⟨hgt, hdt⟩ := gl_ok hgt hs
                split at h
                · rename_i a' t' h1 h2
                  cases h
                  exact plainT (PEeq (se_isi h2 hg (G.blt _ (by decide)) hgt (G.blt _ (tyOf_name h2).2.2.2.2) (I.e c _ _ h1 X W G hs hN hf).1 (cE_fine h1)) fun ρ S => by simp only [ev] <;> rfl) (fun z => by obtain ⟨_, _, _, z⟩ := z; cases z) (fun _ => rfl)
                · cases h
              · cases h
            · cases h
          · split at h
            · rename_i b es' hb h1
              cases h
              have hfs := (cEs_len n h1).2.2
              obtain ⟨b1, b2, b3, b4⟩ := bTab_ok _ (bOf_mem hb)
              exact plainT (PEeq (se_blt G.calm G.grd hu hg (G.blt _ b4) b1 (I.es c _ _ h1 X W G hs hN hf) b2 b3 (fine_star (hfs a (by simp)) _ _) (fine_plain _ _ fun x hx => hfs x (by simp [hx]))) fun ρ S => by simp only [ev] <;> rfl) (fun z => by obtain ⟨_, _, _, z⟩ := z; cases z) (fun _ => rfl)
            · cases h
      · cases h
    · -- method
      split at h
      · rename_i hl
        split at h
        · rename_i m' o' es' hm h1 h2
          cases h
          obtain ⟨l1, l2, l3⟩ := cEs_len n h2
          refine plainT (PEeq (se_mth hu hm (I.e c _ _ h1 X W G hs hN hf).1 (I.es c _ _ h2 X W G hs hN hf) (fun z => ?_) (cE_fine h1) l3 hl) fun ρ S => by simp only [ev] <;> rfl) (fun z => by obtain ⟨_, _, _, z⟩ := z; cases z) (fun _ => rfl)
          rw [l2 z]
          funext ρ S
          simp only [evs]
        · cases h
      · cases h
    · -- comprehension
      rename_i elt tg iter ifs scope p
      split at h
      · rename_i hb
        have go : ∀ {t' : Tg} {i' : Es} {e' : E} {cd : Op} {ifs : List Expr}, compTg (blkSc c scope) tg = some t' → cEs g n c (iterOf c iter).2 = some i' → cE g n (blkSc c scope) elt = some e' → (tgSlots t').all (fun j => decide (j ∈ (ownOf c scope).map (·.2))) = true →
            ((cd = .no ∧ ifs = []) ∨ ∃ d d', cd = .so d' ∧ ifs = [d] ∧ noIf d = true ∧ cE g n (blkSc c scope) d = some d') →
            PE X (.ListComp elt [⟨tg, iter, ifs, 0⟩] scope p) (tE X.K W (ev (call g.T F k) (.lc e' t' (iterOf c iter).1 i' cd ((ownOf c scope).map (·.2))))) := by
          intro t' i' e' cd ifs h1 h2 h3 h4 h5
          exact PEeq (se_lc G.calm G.nd (lc_parts ih h1 h2 h3 h4 hb h5 G hs hN hf)) (ev_lc _ _ _ _ _ _ _)
        split at h
        · rename_i t' i' e' h1 h2 h3
          split at h
          · rename_i h4
            cases h
            exact plainT (go h1 h2 h3 h4 (.inl ⟨rfl, rfl⟩)) (fun z => by obtain ⟨_, _, _, z⟩ := z; cases z) (fun _ => rfl)
          · cases h
        · rename_i t' i' e' d h1 h2 h3
          split at h
          · rename_i h4
            rw [Option.map_eq_some_iff] at h
            obtain ⟨d', hd, rfl⟩ := h
            exact plainT (go h1 h2 h3 h4.2 (.inr ⟨d, d', rfl, rfl, h4.1, hd⟩)) (fun z => by obtain ⟨_, _, _, z⟩ := z; cases z) (fun _ => rfl)
          · cases h
        · cases h
      · cases h
    · cases h
  · cases es with
    | nil =>
      simp only [cEs, Option.some.injEq] at h
      subst h
      exact PAeq sa_nil fun ρ S => by simp only [evs]
    | cons e r =>
      simp only [cEs] at h
      split at h
      · rename_i e' r' h1 h2
        cases h
        exact PAeq (sa_cons (I.e c _ _ h1 X W G hs hN hf).1 (I.es c _ _ h2 X W G hs hN hf) (fine_star (cE_fine h1) _ _)) fun ρ S => by simp only [evs]
      · cases h
  · cases o with
    | none =>
      simp only [cO, Option.some.injEq] at h
      subst h
      exact POeq so_none fun ρ S => by simp only [evo] <;> rfl
    | some e =>
      simp only [cO, Option.map_eq_some_iff] at h
      obtain ⟨e', h1, rfl⟩ := h
      exact POeq (so_some (I.e c _ _ h1 X W G hs hN hf).1) fun ρ S => by simp only [evo] <;> rfl
end Pv
set_option Elab.async false
set_option linter.all false
set_option maxRecDepth 100000
set_option maxHeartbeats 4000000
/-! statements -/
namespace Pv
open PySem PySem.Spec PyProof.Rows L2

/-! ### compiled -/
def notComp : Expr → Bool
  | .ListComp .. => false
  | .SetComp .. => false
  | .DictComp .. => false
  | _ => true
/-- one comprehension stored at once -/
def swN (c : Sc) (scope : Scope) (lp : Pos) (x : Str) (p : Pos) : Bool := (c.sc.names.lookup x == some .local) && ((p.line == lp.line) && !(scope.names.any fun y => y.1 == x && (y.2 == .local || y.2 == .cell)))
mutual
def cT (g : Cfg) : Nat → Sc → Expr → Option AT
  | 0, _, _ => none
  | n + 1, c, e => match e with
    | .Name x p => (tgName c (.Name x p)).map .nm
    | .Subscript a i _ => (match cE g n c a, cE g n c i with
      | some a', some i' => some (.sub a' i')
      | _, _ => none)
    | .Tuple es _ _ => (cTs g n c es).map .tp
    | _ => none
def cTs (g : Cfg) : Nat → Sc → List Expr → Option ATs
  | 0, _, _ => none
  | n + 1, c, es => match es with
    | [] => some .nil
    | e :: r => (match cT g n c e, cTs g n c r with
      | some e', some r' => some (.cons e' r')
      | _, _ => none)
end
/-- what a pair = pair does: stored from the right, or as a tuple -/
def parOf (c : Sc) : Expr → Expr → Option (Nat × Nat × Expr × Expr)
  | .Tuple [.Name x px, .Name y py] _ _, .Tuple [a, b] _ _ => if c.sc.names.lookup x = some .local ∧ c.sc.names.lookup y = some .local ∧ (py.line == px.line) = true ∧ x ≠ y ∧ [a, b].all (constantsAlone 8) = false ∧ [a, b].all (foldedForSure 8) = false then
      (match ixOf x c.N, ixOf y c.N with
      | some i, some j => if i = j then none else some (i, j, a, b)
      | _, _ => none) else none
  | _, _ => none
/-- a tuple's stores that are not exchanged -/
def notPar (c : Sc) : Expr → Expr → Bool
  | .Tuple ts _ _, .Tuple vs _ _ => !(ts.length == 2 || ts.length == 3) || (vs.length != ts.length || (ts.any fun
    | .Name x _ => !decide (c.sc.names.lookup x = some .local)
    | _ => true))
  | _, .Tuple .. => true
  | _, _ => true
mutual
def cS (g : Cfg) : Nat → Sc → Stmt → Option Stm
  | 0, _, _ => none
  | n + 1, c, s => match s with
    | .Assign [t] (.ListComp elt gens scope lp) p => (match t with
      | .Name x q => if swN c scope lp x q = true then (match gens with
          | [⟨_, _, _, 0⟩] => (match tgName c (.Name x q), cE g n c (.ListComp elt gens scope lp) with
            | some i, some e' => some (.asg (.nm i) e')
            | _, _ => none)
          | _ => none) else (match tgName c (.Name x q), cE g n c (.ListComp elt gens scope lp) with
          | some i, some e' => some (.asg (.nm i) e')
          | _, _ => none)
      | _ => none)
    | .Assign [t] e _ => (match parOf c t e with
      | some (i, j, a, b) => (match cE g n c a, cE g n c b with
        | some a', some b' => some (.par i j a' b')
        | _, _ => none)
      | none => if notPar c t e = true ∧ notComp e = true then (match cT g n c t, cE g n c e with
        | some t', some e' => some (.asg t' e')
        | _, _ => none) else none)
    | .Expr e _ => if notComp e = true then (cE g n c e).map .ex else none
    | .Return (some e) _ => (cE g n c e).map .ret
    | .Return none _ => some .retN
    | .If t a b _ => if noIf t = true then (match cE g n c t, cSs g n c a, cSs g n c b with
      | some t', some a', some b' => some (.ife t' a' b')
      | _, _, _ => none) else none
    | .For tg it b [] _ => (match compTg c tg, cEs g n c (iterOf c it).2, cSs g n c b with
      | some t', some i', some b' => some (.for t' (iterOf c it).1 i' b')
      | _, _, _ => none)
    | .While t b [] _ => if noIf t = true then (match cE g n c t, cSs g n c b with
      | some t', some b' => some (.whl t' b')
      | _, _ => none) else none
    | .Break _ => some .brk
    | .Continue _ => some .cnt
    | .Pass _ => some .pas
    | _ => none
def cSs (g : Cfg) : Nat → Sc → List Stmt → Option Stms
  | 0, _, _ => none
  | n + 1, c, ss => match ss with
    | [] => some .nil
    | s :: r => (match cS g n c s, cSs g n c r with
      | some s', some r' => some (.cons s' r')
      | _, _ => none)
end

/-! ### readings -/
def EXA (K : PySem.W.Frag) (W : WX) : XW := fun c fs _ as' H' => ∀ σ cls dx, ExnR K as' H' c fs cls dx → W cls dx σ H'
theorem Post.exm {K : PySem.W.Frag} {α : Type} {EX EX' : XW} {as : List Addr} {H : Hp} {r : R α} {Q : α → Store → List Addr → Hp → Prop} (h : Post K EX as H r Q) (f : ∀ c fs S as H, EX c fs S as H → EX' c fs S as H) : Post K EX' as H r Q := by
  cases r with
  | ok a S => exact h
  | ex c fs S => exact fun as' H' x r => f _ _ _ _ _ (h as' H' x r)
  | no => exact h
theorem EXA.at_ {K : PySem.W.Frag} {W : WX} (σ : L2.St) : ∀ c fs S as H, EXA K W c fs S as H → EXW K W σ c fs S as H := fun _ _ _ _ _ h => h σ
def OutQ (K : PySem.W.Frag) (Dn : Ends) : Out → Store → List Addr → Hp → Prop := fun o _ as' H' => match o with
  | .nx ρ' => ∀ σ', EnvR K as' H' ρ' σ' → Dn.nx σ' H'
  | .ret d => ∀ v, RepV K as' H' d v → Dn.rt v H'
  | .bk ρ' => ∀ σ', EnvR K as' H' ρ' σ' → Dn.bk σ' H'
  | .ct ρ' => ∀ σ', EnvR K as' H' ρ' σ' → Dn.ct σ' H'
def tS (K : PySem.W.Frag) (W : WX) (m : Env → Store → R Out) : TS := fun Dn σ H => ∃ ρ S as, RelS K as H S ∧ EnvR K as H ρ σ ∧ Post K (EXA K W) as H (m ρ S) (OutQ K Dn)
/-- a target's reading -/
def tAT (K : PySem.W.Frag) (W : WX) (m : D → Env → Store → R Env) : TG := fun v σ H Q => ∃ ρ S as d, RelS K as H S ∧ EnvR K as H ρ σ ∧ RepV K as H d v ∧ Post K (EXA K W) as H (m d ρ S) fun ρ' _ as' H' => ∀ σ', EnvR K as' H' ρ' σ' → Q σ' H'
def tATs (K : PySem.W.Frag) (W : WX) (m : List D → Env → Store → R Env) : TGs := fun vs σ H Q => ∃ ρ S as ds, RelS K as H S ∧ EnvR K as H ρ σ ∧ RepVs K as H ds vs ∧ Post K (EXA K W) as H (m ds ρ S) fun ρ' _ as' H' => ∀ σ', EnvR K as' H' ρ' σ' → Q σ' H'
section
variable {K : PySem.W.Frag} {W : WX} {σ : L2.St} {H : Hp}
theorem tE_thenA {m : Env → Store → R D} {β : Type} {f : D → Store → R β} {ρ : Env} {S : Store} {as : List Addr} {Qd : β → Store → List Addr → Hp → Prop} {Q' : VK} (rel : RelS K as H S) (env : EnvR K as H ρ σ) (h : Post K (EXA K W) as H ((m ρ S).bind f) Qd)
    (k : ∀ v H1 d S1 as1, Ext as H as1 H1 → RelS K as1 H1 S1 → EnvR K as1 H1 ρ σ → RepV K as1 H1 d v → Post K (EXA K W) as1 H1 (f d S1) Qd → Q' v H1) : tE K W m σ H Q' := by
  refine ⟨ρ, S, as, rel, env, (Post.bind h).exm (EXA.at_ σ) |>.imp fun d S1 as1 H1 x r p v hv => k v H1 d S1 as1 x r (x.env rel env) hv p⟩
theorem tT_thenA {m : Env → Store → R D} {β : Type} {f : Bool → Store → R β} {ρ : Env} {S : Store} {as : List Addr} {Qd : β → Store → List Addr → Hp → Prop} {Q' : Bool → Hp → Prop} (rel : RelS K as H S) (env : EnvR K as H ρ σ) (h : Post K (EXA K W) as H ((m ρ S).bind fun x S1 => isB x S1 fun b => f b S1) Qd)
    (k : ∀ b H1 S1 as1, Ext as H as1 H1 → RelS K as1 H1 S1 → EnvR K as1 H1 ρ σ → Post K (EXA K W) as1 H1 (f b S1) Qd → Q' b H1) : tT K W m σ H Q' := by
  refine ⟨ρ, S, as, rel, env, (Post.bind h).exm (EXA.at_ σ) |>.imp fun d S1 as1 H1 x r p => ?_⟩
  cases d with
  | bl b => exact ⟨b, rfl, k b H1 S1 as1 x r (x.env rel env) p⟩
  | _ => exact p.elim
end
/-- for a def's body besides -/
structure GoodS (g : Cfg) (k F : Nat) (X : Cx) (W : WX) : Prop extends Good g k F X W where
  passes : PassesOwn (model X.prog X.w) X.A X.env X.xe
  kind : X.env.scope.kind = .function
section
variable {g : Cfg} {k F n : Nat} {c : Sc} {X : Cx} {W : WX}
theorem pg_nmT {i : Nat} {x : Str} {p : Pos} (nd : X.N.Nodup) (st : Stor X i x) {cl : Cl} : PG X (.Name x p) (tAT X.K W (asgT cl (.nm i))) := by
  refine PGwk (pg_name nd st.1 st.2.1 st.2.2) fun v σ H Q ⟨ρ, S, as, d, rel, env, hv, q⟩ => ?_
  simp only [asgT] at q
  split at q
  · exact q.here rel _ (bind_env hv env i)
  · exact q.elim
theorem pg_subT {a i : Expr} {p : Pos} {ma mi : E} {cl : Cl} (hu : X.A.units + 65 < cLine) (ha : PE X a (tE X.K W (ev cl ma))) (hi : PE X i (tE X.K W (ev cl mi))) (hfi : Fine i = true) : PG X (.Subscript a i p) (tAT X.K W (asgT cl (.sub ma mi))) := by
  refine PGwk (pg_sub ha hi (setD_ok hu) (by intro v; cases i <;> first | rfl | cases hfi)) fun v σ H Q ⟨ρ, S, as, d, rel, env, hv, q⟩ => ?_
  simp only [asgT] at q
  refine tE_thenA rel env q fun o H1 dx S1 as1 x1 rel1 env1 ho q1 => tE_thenA rel1 env1 q1 fun y H2 dy S2 as2 x2 rel2 env2 hy q2 => ?_
  refine ⟨EXA X.K W, as2, S2, dx, dy, d, rel2, x2.repV rel1 _ _ ho, hy, x2.repV rel1 _ _ (x1.repV rel _ _ hv), (Post.bind q2).imp fun u S3 as3 H3 x3 rel3 q3 => ?_⟩
  exact q3.here rel3 _ (x3.env rel2 env2)
theorem assignEach_ok {e : Expr} {es : List Expr} {env : PySem.Env} (h : ∀ t p, e ≠ .Starred t p) : assignEach (e :: es) env = (false, assign e env) :: assignEach es env := by
  cases e <;> first | rfl | exact absurd rfl (h _ _)
theorem cT_star {e : Expr} {t : AT} (h : cT g n c e = some t) : ∀ u p, e ≠ .Starred u p := by
  intro u p e
  subst e
  cases n <;> simp [cT] at h
theorem cTs_each {es : List Expr} {ts : ATs} : ∀ {n : Nat}, cTs g n c es = some ts → ∀ env, (assignEach es env).length = es.length ∧ (assignEach es env).findIdx? (·.1) = none := by
  induction es generalizing ts with
  | nil => intro n h env; exact ⟨rfl, rfl⟩
  | cons e es ih =>
    intro n h env
    cases n with
    | zero => simp [cTs] at h
    | succ n =>
      simp only [cTs] at h
      split at h
      · rename_i e' r' h1 h2
        obtain ⟨i1, i2⟩ := ih h2 env
        rw [assignEach_ok (cT_star h1)]
        refine ⟨by rw [List.length_cons, List.length_cons, i1], ?_⟩
        rw [List.findIdx?_cons]
        simp only [Bool.false_eq_true, if_false, i2]
        rfl
      · cases h
theorem cTs_len {es : List Expr} {ts : ATs} : ∀ {n : Nat}, cTs g n c es = some ts → atsLen ts = es.length := by
  induction es generalizing ts with
  | nil =>
    intro n h
    cases n with
    | zero => simp [cTs] at h
    | succ n => simp only [cTs, Option.some.injEq] at h; subst h; rfl
  | cons e es ih =>
    intro n h
    cases n with
    | zero => simp [cTs] at h
    | succ n =>
      simp only [cTs] at h
      split at h
      · rename_i e' r' h1 h2
        cases h
        show atsLen r' + 1 = _
        rw [ih h2, List.length_cons]
      · cases h
/-- every target -/
theorem sound_t (g : Cfg) (k F : Nat) : ∀ n, (∀ (c : Sc) (e : Expr) (t : AT), cT g n c e = some t → ∀ (X : Cx) (W : WX), GoodS g k F X W → X.env.scope = c.sc → X.N = c.N → X.fn = c.fn → PG X e (tAT X.K W (asgT (call g.T F k) t))) ∧
    (∀ (c : Sc) (es : List Expr) (ts : ATs), cTs g n c es = some ts → ∀ (X : Cx) (W : WX), GoodS g k F X W → X.env.scope = c.sc → X.N = c.N → X.fn = c.fn → PGs X es (fun vs σ H Q => vs.length = es.length ∧ tATs X.K W (asgTs (call g.T F k) ts) vs σ H Q)) := by
  intro n
  induction n with
  | zero => exact ⟨fun c e t h => by simp [cT] at h, fun c e t h => by simp [cTs] at h⟩
  | succ n ih =>
  refine ⟨fun c e t h X W G hs hN hf => ?_, fun c es ts h X W G hs hN hf => ?_⟩
  · unfold cT at h
    split at h
    · rw [Option.map_eq_some_iff] at h
      obtain ⟨i, h, rfl⟩ := h
      obtain ⟨y, q, e, st⟩ := tgName_ok h hs hN hf
      cases e
      exact pg_nmT G.nd st
    · split at h
      · rename_i a' i' h1 h2
        cases h
        exact pg_subT G.u65 ((sound_e g k F n).e c _ _ h1 X W G.toGood hs hN hf).1 ((sound_e g k F n).e c _ _ h2 X W G.toGood hs hN hf).1 (cE_fine h2)
      · cases h
    · rw [Option.map_eq_some_iff] at h
      obtain ⟨ts, h, rfl⟩ := h
      obtain ⟨e1, e2⟩ := cTs_each h X.env
      refine PGwk (pg_tup G.calm (ih.2 c _ _ h X W G hs hN hf) e1 e2) fun v σ H Q ⟨ρ, S, as, d, rel, env, hv, q⟩ => ?_
      simp only [asgT] at q
      cases d with
      | tup ds =>
        simp only at q
        simp only [RepV] at hv
        obtain ⟨a, vs, rfl, hq, l, t⟩ := hv
        split at q
        case isFalse => exact q.elim
        rename_i hlen
        exact ⟨a, vs, rfl, hq, by rw [t.length, hlen, cTs_len h], by rw [t.length, hlen, cTs_len h], ρ, S, as, ds, rel, env, t, q⟩
      | _ => exact q.elim
    · cases h
  · cases es with
    | nil =>
      simp only [cTs, Option.some.injEq] at h
      subst h
      refine ⟨fun pins s σ H vs us Q I r q => ?_⟩
      obtain ⟨q1, ρ, S, as, ds, rel, env, hv, q⟩ := q
      have e : vs = [] := List.eq_nil_of_length_eq_zero q1
      subst e
      have e2 : ds = [] := List.eq_nil_of_length_eq_zero (by rw [← hv.length]; rfl)
      subst e2
      simp only [asgTs] at q
      exact pgs_nil.run pins s σ H [] us Q I r ⟨rfl, q.here rel _ env⟩
    | cons e es =>
      simp only [cTs] at h
      split at h
      · rename_i e' r' h1 h2
        cases h
        have P1 := ih.1 c _ _ h1 X W G hs hN hf
        have P2 := ih.2 c _ _ h2 X W G hs hN hf
        have gg := pgs_cons P1 P2 (by rw [assignEach_ok (cT_star h1)]; rfl)
        refine ⟨fun pins s σ H vs us Q I r q => gg.run pins s σ H vs us Q I r ?_⟩
        obtain ⟨q1, ρ, S, as, ds, rel, env, hv, q⟩ := q
        cases ds with
        | nil => simp only [RepVs] at hv; subst hv; simp at q1
        | cons d ds =>
          simp only [RepVs] at hv
          obtain ⟨v, vs', rfl, hv1, hv2⟩ := hv
          simp only [asgTs] at q
          refine ⟨v, vs', rfl, ρ, S, as, d, rel, env, hv1, (Post.bind q).imp fun ρ' S1 as1 H1 x1 rel1 q2 σ' env' => ?_⟩
          exact ⟨by simpa using q1, ρ', S1, as1, ds, rel1, env', x1.repVs rel _ _ hv2, q2⟩
      · cases h
/-! ### the statements -/
theorem ss_asg {tg e : Expr} {p : Pos} {m : Env → Store → R D} {mt : D → Env → Store → R Env} (he : PE X e (tE X.K W m)) (hg : PG X tg (tAT X.K W mt)) (hs : swapsWithSole [tg] e p.line X.env = pure false) (hw : swappedStores [tg] e X.env = pure none)
    (h1 : (assignEach [tg] X.env).map (·.2) = [assign tg X.env]) : PS X (.Assign [tg] e p) (tS X.K W fun ρ S => (m ρ S).bind fun d S1 => (mt d ρ S1).bind fun ρ' S2 => .ok (.nx ρ') S2) := by
  refine PSwk (ps_asg he hg hs hw h1) fun Dn σ H ⟨ρ, S, as, rel, env, q⟩ => ?_
  refine tE_thenA rel env q fun v H1 d S1 as1 x1 rel1 env1 hv q1 => ?_
  refine ⟨ρ, S1, as1, d, rel1, env1, hv, (Post.bind q1).imp fun ρ' S2 as2 H2 x2 rel2 q2 => ?_⟩
  exact q2.here rel2
theorem ss_asgLc {i : Nat} {y : Str} {py : Pos} {elt tg iter : Expr} {ifs : List Expr} {scope : Scope} {pos spos : Pos} {m : Env → Store → R D} {cl : Cl} (st : Stor X i y) (hl : X.env.scope.names.lookup y = some .local)
    (he : PS X (.Assign [.Name y py] (.ListComp elt [⟨tg, iter, ifs, 0⟩] scope pos) spos) (tAsg (tE X.K W m) (gName i))) :
    PS X (.Assign [.Name y py] (.ListComp elt [⟨tg, iter, ifs, 0⟩] scope pos) spos) (tS X.K W fun ρ S => (m ρ S).bind fun d S1 => (asgT cl (.nm i) d ρ S1).bind fun ρ' S2 => .ok (.nx ρ') S2) := by
  refine PSwk he fun Dn σ H ⟨ρ, S, as, rel, env, q⟩ => ?_
  refine tE_thenA rel env q fun v H1 d S1 as1 x1 rel1 env1 hv q1 => ?_
  simp only [asgT] at q1
  split at q1
  · exact Post.here (EX := EXA X.K W) (Q := OutQ X.K Dn) (a := Out.nx _) q1 rel1 _ (bind_env hv env1 i)
  · exact q1.elim
theorem ss_par {i j : Nat} {x y : Str} {a b : Expr} {px py pt : Pos} {kt k2 pt2 p} {ma mb : Env → Store → R D} (hc : X.calm = true) (nd : X.N.Nodup) (hi : X.N[i]? = some x) (hj : X.N[j]? = some y) (hij : i ≠ j) (hx : X.env.scope.names.lookup x = some .local) (hy : X.env.scope.names.lookup y = some .local)
    (ha : PE X a (tE X.K W ma)) (hb : PE X b (tE X.K W mb)) (hfa : Fine a = true) (hfb : Fine b = true) (hw : swappedStores [.Tuple [.Name x px, .Name y py] kt pt] (.Tuple [a, b] k2 pt2) X.env = pure (some [x, y])) :
    PS X (.Assign [.Tuple [.Name x px, .Name y py] kt pt] (.Tuple [a, b] k2 pt2) p) (tS X.K W fun ρ S => (ma ρ S).bind fun x S1 => (mb ρ S1).bind fun y S2 => if i < ρ.length ∧ j < ρ.length then .ok (.nx ((ρ.set i (some x)).set j (some y))) S2 else .no) := by
  refine PSwk (ps_par hc nd hi hj hij hx hy (pa_cons ha (pa_cons hb pa_nil (fine_star hfb _ _)) (fine_star hfa _ _)) hw) fun Dn σ H ⟨ρ, S, as, rel, env, q⟩ => ?_
  refine tE_thenA rel env q fun v H1 d S1 as1 x1 rel1 env1 hv q1 => tE_thenA rel1 env1 q1 fun u H2 e S2 as2 x2 rel2 env2 hu q2 => ?_
  split at q2
  · exact ⟨v, u, rfl, Post.here (a := Out.nx _) q2 rel2 _ (bind_env hu (bind_env (x2.repV rel1 _ _ hv) env2 i) j)⟩
  · exact q2.elim
theorem ss_ex {e : Expr} {p : Pos} {m : Env → Store → R D} (he : PE X e (tE X.K W m)) (hs : swapsWith e none p.line X.env = pure false) : PS X (.Expr e p) (tS X.K W fun ρ S => (m ρ S).bind fun _ S1 => .ok (.nx ρ) S1) := by
  refine PSwk (ps_expr he hs) fun Dn σ H ⟨ρ, S, as, rel, env, q⟩ => ?_
  refine tE_thenA rel env q fun v H1 d S1 as1 x1 rel1 env1 hv q1 => ?_
  exact Post.here (EX := EXA X.K W) (Q := OutQ X.K Dn) (a := Out.nx _) q1 rel1 _ env1
theorem ss_ret {e : Expr} {p : Pos} {m : Env → Store → R D} (he : PE X e (tE X.K W m)) : PS X (.Return (some e) p) (tS X.K W fun ρ S => (m ρ S).bind fun d S1 => .ok (.ret d) S1) := by
  refine PSwk (ps_ret he) fun Dn σ H ⟨ρ, S, as, rel, env, q⟩ => ?_
  refine tE_thenA rel env q fun v H1 d S1 as1 x1 rel1 env1 hv q1 => ?_
  exact Post.here (EX := EXA X.K W) (Q := OutQ X.K Dn) (a := Out.ret _) q1 rel1 _ hv
theorem ss_if {t : Expr} {a b : List Stmt} {p : Pos} {mt : Env → Store → R D} {ma mb : Env → Store → R Out} (ht : PT X t (tT X.K W mt)) (ha : PSs X a (tS X.K W ma)) (hb : PSs X b (tS X.K W mb)) : PS X (.If t a b p) (tS X.K W fun ρ S => (mt ρ S).bind fun x S1 => isB x S1 fun c => if c = true then ma ρ S1 else mb ρ S1) := by
  refine PSwk (ps_if ht ha hb) fun Dn σ H ⟨ρ, S, as, rel, env, q⟩ => ?_
  refine tT_thenA (f := fun c S1 => if c = true then ma ρ S1 else mb ρ S1) rel env q fun b H1 S1 as1 x1 rel1 env1 q1 => ?_
  cases b with
  | true => exact ⟨ρ, S1, as1, rel1, env1, q1⟩
  | false => exact ⟨ρ, S1, as1, rel1, env1, q1⟩
theorem ss_nil : PSs X [] (tS X.K W fun ρ S => .ok (.nx ρ) S) := PSswk pss_nil fun Dn σ H ⟨ρ, S, as, rel, env, q⟩ => Post.here (a := Out.nx _) q rel _ env
theorem ss_cons {s : Stmt} {r : List Stmt} {m : Env → Store → R Out} {mr : Env → Store → R Out} (h : PS X s (tS X.K W m)) (hr : PSs X r (tS X.K W mr)) : PSs X (s :: r) (tS X.K W fun ρ S => (m ρ S).bind fun o S1 => match o with
    | .nx ρ' => mr ρ' S1
    | o => .ok o S1) := by
  refine PSswk (pss_cons h hr) fun Dn σ H ⟨ρ, S, as, rel, env, q⟩ => ?_
  refine ⟨ρ, S, as, rel, env, (Post.bind q).imp fun o S1 as1 H1 x1 rel1 q1 => ?_⟩
  cases o with
  | nx ρ' => exact fun σ' env' => ⟨ρ', S1, as1, rel1, env', q1⟩
  | ret d => exact Post.here (EX := EXA X.K W) (Q := OutQ X.K Dn) (a := Out.ret d) q1 rel1
  | bk ρ' => exact Post.here (EX := EXA X.K W) (Q := OutQ X.K Dn) (a := Out.bk ρ') q1 rel1
  | ct ρ' => exact Post.here (EX := EXA X.K W) (Q := OutQ X.K Dn) (a := Out.ct ρ') q1 rel1
theorem ss_while {t : Expr} {b : List Stmt} {p : Pos} {mt : Env → Store → R D} {mb : Env → Store → R Out} {F : Nat} (hp : PassesOwn (model X.prog X.w) X.A X.env X.xe) (ht : PT X t (tT X.K W mt)) (hb : PSs X b (tS X.K W mb)) : PS X (.While t b [] p) (tS X.K W fun ρ S => whGo mt mb F ρ S) := by
  refine PSwk (ps_while hp ht hb) fun Dn σ H ⟨ρ, S, as, rel, env, q⟩ => ?_
  refine ⟨fun m σ H => ∃ ρ S as, RelS X.K as H S ∧ EnvR X.K as H ρ σ ∧ Post X.K (EXA X.K W) as H (whGo mt mb m ρ S) (OutQ X.K Dn), ⟨F, ρ, S, as, rel, env, q⟩, ?_⟩
  rintro m σ H ⟨ρ, S, as, rel, env, q⟩
  cases m with
  | zero => exact q.elim
  | succ m =>
  unfold whGo at q
  refine tT_thenA (f := fun b S1 => if b = true then (mb ρ S1).bind fun o S2 => match o with
    | .nx ρ' => whGo mt mb m ρ' S2
    | .ct ρ' => whGo mt mb m ρ' S2
    | .bk ρ' => .ok (.nx ρ') S2
    | .ret d => .ok (.ret d) S2 else .ok (.nx ρ) S1) rel env q fun b H1 S1 as1 x1 rel1 env1 q1 => ?_
  cases b with
  | true =>
    simp only [if_true] at q1 ⊢
    refine ⟨fun σ H => ∃ ρ S as, RelS X.K as H S ∧ EnvR X.K as H ρ σ ∧ Post X.K (EXA X.K W) as H (whGo mt mb m ρ S) (OutQ X.K Dn), fun σ' H' h => ⟨m, Nat.lt_succ_self m, h⟩, ρ, S1, as1, rel1, env1, (Post.bind q1).imp fun o S2 as2 H2 x2 rel2 q2 => ?_⟩
    cases o with
    | nx ρ' => exact fun σ' env' => ⟨ρ', S2, as2, rel2, env', q2⟩
    | ct ρ' => exact fun σ' env' => ⟨ρ', S2, as2, rel2, env', q2⟩
    | bk ρ' => exact Post.here (EX := EXA X.K W) (Q := OutQ X.K Dn) (a := Out.nx ρ') q2 rel2
    | ret d => exact Post.here (EX := EXA X.K W) (Q := OutQ X.K Dn) (a := Out.ret d) q2 rel2
  | false =>
    simp only [Bool.false_eq_true, if_false] at q1 ⊢
    exact Post.here (EX := EXA X.K W) (Q := OutQ X.K Dn) (a := Out.nx ρ) q1 rel1 _ env1
theorem ss_for {tg iter : Expr} {b : List Stmt} {p : Pos} {t : Tg} {mi : Env → Store → R (List D × Option Nat)} {mb : Env → Store → R Out} (hp : PassesOwn (model X.prog X.w) X.A X.env X.xe) (hc : X.calm = true) (hi : PI X tg iter (tI X.K W mi)) (hg : PG X tg (tG X.K t)) (hb : PSs X b (tS X.K W mb))
    (hs : ∀ x, foldedSetIterable iter X.env x = pure x) : PS X (.For tg iter b [] p) (tS X.K W fun ρ S => (mi ρ S).bind fun q S1 => forGo (fun d ρ' S2 => match bindT t d ρ' with
        | none => .no
        | some ρ'' => mb ρ'' S2) q.2 q.1 q.1 ρ S1) := by
  refine PSwk (ps_for hp hc hi hg hb hs) fun Dn σ H ⟨ρ, S, as, rel, env, q⟩ => ?_
  refine ⟨ρ, S, as, rel, env, ((Post.bind q).exm (EXA.at_ σ)).imp fun pq S1 as1 H1 x1 rel1 q1 st J hw => ?_⟩
  refine ⟨fun i m σ H => m = pq.1.length - i ∧ i ≤ pq.1.length ∧ ∃ ρ S as, RelS X.K as H S ∧ EnvR X.K as H ρ σ ∧ Ext as1 H1 as H ∧ Post X.K (EXA X.K W) as H (forGo (fun d ρ' S2 => match bindT t d ρ' with
        | none => .no
        | some ρ'' => mb ρ'' S2) pq.2 pq.1 (pq.1.drop i) ρ S) (OutQ X.K Dn), ⟨pq.1.length, by simp, Nat.zero_le _, ρ, S1, as1, rel1, x1.env rel env, Ext.refl, by simpa using q1⟩, ?_⟩
  rintro i m σ2 H2 ⟨rfl, hi', ρ2, S2, as2, rel2, env2, x2, q2⟩
  by_cases hlt : i < pq.1.length
  · rw [List.drop_eq_getElem_cons hlt] at q2
    unfold forGo at q2
    split at q2
    case isFalse => exact q2.elim
    rename_i st2
    obtain ⟨w1, w2⟩ := hw as2 H2 S2 x2 rel2 st2
    obtain ⟨go, yl⟩ := w2 i pq.1[i] (List.getElem?_eq_getElem hlt)
    refine .inr ⟨go, fun σ' H' => ∃ ρ S as, RelS X.K as H' S ∧ EnvR X.K as H' ρ σ' ∧ Ext as1 H1 as H' ∧ Post X.K (EXA X.K W) as H' (forGo (fun d ρ' S2 => match bindT t d ρ' with
        | none => .no
        | some ρ'' => mb ρ'' S2) pq.2 pq.1 (pq.1.drop (i + 1)) ρ S) (OutQ X.K Dn), fun σ' H' h => ?_, fun x H3 hy => ?_⟩
    · obtain ⟨ρ', S', as', a1, a2, a3, a4⟩ := h
      exact ⟨pq.1.length - (i + 1), by omega, rfl, hlt, ρ', S', as', a1, a2, a3, a4⟩
    · obtain ⟨y1, y2, y3⟩ := yl x H3 hy
      cases eb : bindT t pq.1[i] ρ2 with
      | none => simp only [eb] at q2; exact q2.elim
      | some ρ' =>
        simp only [eb] at q2
        obtain ⟨σ', b1, b2, b3⟩ := bind_ok eb y3 (y1.env rel2 env2)
        refine b2 _ ⟨ρ', S2, as2, y2, b1, (Post.bind (q2.base y1)).imp fun o S4 as4 H4 x4 rel4 q4 => ?_⟩
        have x14 := (x2.trans y1).trans x4
        cases o with
        | nx ρ'' => exact fun σ'' env'' => ⟨ρ'', S4, as4, rel4, env'', x14, q4⟩
        | ct ρ'' => exact fun σ'' env'' => ⟨ρ'', S4, as4, rel4, env'', x14, q4⟩
        | bk ρ'' => exact Post.here (EX := EXA X.K W) (Q := OutQ X.K Dn) (a := Out.nx ρ'') q4 rel4
        | ret d => exact Post.here (EX := EXA X.K W) (Q := OutQ X.K Dn) (a := Out.ret d) q4 rel4
  · have e : i = pq.1.length := by omega
    subst e
    rw [List.drop_length] at q2
    unfold forGo at q2
    split at q2
    case isFalse => exact q2.elim
    rename_i st2
    obtain ⟨w1, w2⟩ := hw as2 H2 S2 x2 rel2 st2
    exact .inl ⟨w1 _ (Nat.le_refl _), Post.here (EX := EXA X.K W) (Q := OutQ X.K Dn) (a := Out.nx ρ2) q2 rel2 _ env2⟩
end
end Pv
set_option Elab.async false
set_option linter.all false
set_option maxRecDepth 100000
set_option maxHeartbeats 4000000
/-! every statement that is compiled is run so -/
namespace Pv
open PySem PySem.Spec PyProof.Rows L2
section
variable {X : Cx} {W : WX} {s : Stmt} {ss : List Stmt}
theorem PSeq {m m' : Env → Store → R Out} (h : PS X s (tS X.K W m)) (q : ∀ ρ S, m' ρ S = m ρ S) : PS X s (tS X.K W m') := by
  have : m' = m := by funext ρ S; exact q ρ S
  rw [this]; exact h
theorem PSseq {m m' : Env → Store → R Out} (h : PSs X ss (tS X.K W m)) (q : ∀ ρ S, m' ρ S = m ρ S) : PSs X ss (tS X.K W m') := by
  have : m' = m := by funext ρ S; exact q ρ S
  rw [this]; exact h
theorem sw_no {e : Expr} {t : Option Expr} {l : Nat} {env : PySem.Env} (h : notComp e = true) : swapsWith e t l env = pure false := by
  cases e <;> first | rfl | cases h
theorem sw_off {elt : Expr} {gs : List Comprehension} {scope : Scope} {pos py : Pos} {y : Str} {l : Nat} {c : Sc} {env : PySem.Env} (hs : env.scope = c.sc) (hk : env.scope.kind = .function)
    (h : swN c scope pos y py = false) : swapsWith (.ListComp elt gs scope pos) (some (.Name y py)) l env = pure false := by
  have hb : env.blockKind = .function := by unfold Env.blockKind; rw [hk]; rfl
  unfold swapsWith
  unfold swN at h
  rw [← hs] at h
  simp only [hb, Env.kindOf, Expr.pos]
  have e : ((ScopeKind.function == ScopeKind.function) && (env.scope.names.lookup y == some .local) && (py.line == pos.line) && !(scope.names.any fun x => x.1 == y && (x.2 == .local || x.2 == .cell))) = false := by
    have r : (ScopeKind.function == ScopeKind.function) = true := rfl
    rw [r, Bool.true_and, Bool.and_assoc]; exact h
  exact congrArg (fun b => (pure b : Sem Bool)) e
def isSt : Expr → Bool
  | .Starred .. => true
  | _ => false
theorem fine_st (e : Expr) (h : Fine e = true) : isSt e = false := by
  cases e <;> first | rfl | (simp [Fine] at h)
theorem filterMap_short {α β : Type} {f : α → Option β} : ∀ {l : List α} {x : α}, x ∈ l → f x = none → (l.filterMap f).length < l.length
  | y :: l, x, h, e => by
    rcases List.mem_cons.mp h with rfl | h
    · rw [List.filterMap_cons_none e]
      exact Nat.lt_succ_of_le (List.length_filterMap_le _ _)
    · have := filterMap_short h e
      rw [List.filterMap_cons]
      cases f y with
      | none => exact Nat.lt_succ_of_lt this
      | some z => exact Nat.succ_lt_succ this
theorem notPar_ok {c : Sc} {t e : Expr} {env : PySem.Env} (hs : env.scope = c.sc) (ht : ∀ es p, t ≠ .List es p) (h : notPar c t e = true) : swappedStores [t] e env = pure none := by
  cases t with
  | Tuple ts k p =>
    cases e with
    | Tuple vs k2 p2 =>
      unfold swappedStores
      simp only [notPar, Bool.or_eq_true] at h
      simp only [pure_bind, bind_pure_comp]
      split
      · rfl
      · rename_i hc
        rcases h with h | h | h
        · exact absurd (by simp only [h, Bool.true_or]) hc
        · exact absurd (by simp only [h, Bool.true_or, Bool.or_true]) hc
        · split
          · rfl
          · rw [List.any_eq_true] at h
            obtain ⟨x, hx, hf⟩ := h
            rw [if_pos]
            have : (List.filterMap (fun x => match x with
                | .Name id pos => if (env.kindOf id == some .local && pos.line == (Option.map (fun x => x.pos.line) ts.head?).getD 0) = true then some id else none
                | _ => none) ts).length < ts.length := by
              refine filterMap_short hx ?_
              cases x with
              | Name id pos =>
                simp only at hf ⊢
                rw [if_neg]
                intro z
                rw [Bool.and_eq_true] at z
                have z1 : env.kindOf id = some .local := by simpa using z.1
                unfold Env.kindOf at z1
                rw [hs] at z1
                rw [z1] at hf
                simp at hf
              | _ => rfl
            rw [Bool.or_eq_true]
            left
            rw [bne_iff_ne]
            exact Nat.ne_of_lt this
    | _ => rfl
  | List es p => exact absurd rfl (ht _ _)
  | _ => rfl
theorem parOf_ok {c : Sc} {t e a b : Expr} {i j : Nat} {env : PySem.Env} (hs : env.scope = c.sc) (hk : env.scope.kind = .function) (h : parOf c t e = some (i, j, a, b)) (ha : Fine a = true) (hb : Fine b = true) :
    ∃ x px y py k p k2 p2, t = .Tuple [.Name x px, .Name y py] k p ∧ e = .Tuple [a, b] k2 p2 ∧ env.scope.names.lookup x = some .local ∧ env.scope.names.lookup y = some .local ∧ ixOf x c.N = some i ∧ ixOf y c.N = some j ∧ i ≠ j ∧ swappedStores [t] e env = pure (some [x, y]) := by
  unfold parOf at h
  split at h
  · rename_i x px y py k p a' b' k2 p2
    split at h
    · rename_i hc
      obtain ⟨h1, h2, h3, h4, h5, h6⟩ := hc
      split at h
      · rename_i i' j' hi hj
        split at h
        · cases h
        · rename_i hij
          cases h
          rw [← hs] at h1 h2
          refine ⟨x, px, y, py, k, p, k2, p2, rfl, rfl, h1, h2, hi, hj, hij, ?_⟩
          have hbk : env.blockKind = .function := by unfold Env.blockKind; rw [hk]; rfl
          have k1 : env.kindOf x = some .local := h1
          have k2' : env.kindOf y = some .local := h2
          have hst : ([a, b].any fun x => match x with | .Starred .. => true | _ => false) = false := by
            have e : (fun x : Expr => match x with | .Starred .. => true | _ => false) = isSt := by
              funext x; cases x <;> rfl
            rw [e]
            show (isSt a || (isSt b || false)) = false
            rw [fine_st _ ha, fine_st _ hb]; rfl
          unfold swappedStores
          simp only [pure_bind]
          rw [if_neg (by rw [hbk]; intro z; exact absurd z (by simp))]
          refine (if_neg (fun z => absurd (hst.symm.trans z) (by decide))).trans ?_
          have e1 : ([Expr.Name x px, Expr.Name y py].filterMap fun x' => match x' with
              | .Name id pos => if (env.kindOf id == some .local && pos.line == (Option.map (fun x => x.pos.line) [Expr.Name x px, Expr.Name y py].head?).getD 0) = true then some id else none
              | _ => none) = [x, y] := by
            have hl : (px.line == px.line) = true := beq_self_eq_true _
            have q1 : (env.kindOf x == some .local && px.line == px.line) = true := by rw [k1, hl]; rfl
            have q2 : (env.kindOf y == some .local && py.line == px.line) = true := by rw [k2', h3]; rfl
            show List.filterMap _ [_, _] = _
            rw [List.filterMap_cons_some (b := x) (by show (if _ then _ else _) = _; exact if_pos q1), List.filterMap_cons_some (b := y) (by show (if _ then _ else _) = _; exact if_pos q2), List.filterMap_nil]
          have e2 : ([x, y] : List Str).eraseDups = [x, y] := by
            have : (!(y == x)) = true := by simpa using fun z => h4 z.symm
            rw [List.eraseDups_cons, List.filter_cons_of_pos (p := fun b => !b == x) this, List.filter_nil, List.eraseDups_cons, List.filter_nil]
            rfl
          generalize hL : List.filterMap _ [Expr.Name x px, Expr.Name y py] = L
          have e3 : L = [x, y] := hL.symm.trans e1
          subst e3
          rw [e2, h6, h5]
          rfl
      · cases h
    · cases h
  · cases h
theorem ss_retN {p : Pos} : PS X (.Return none p) (tS X.K W fun _ S => .ok (.ret .non) S) :=
  PSwk ps_retN fun Dn σ H ⟨ρ, S, as, rel, env, q⟩ => Post.here (EX := EXA X.K W) (Q := OutQ X.K Dn) (a := Out.ret .non) q rel _ (by simp only [RepV])
theorem ss_pass {p : Pos} : PS X (.Pass p) (tS X.K W fun ρ S => .ok (.nx ρ) S) :=
  PSwk ps_pass fun Dn σ H ⟨ρ, S, as, rel, env, q⟩ => Post.here (EX := EXA X.K W) (Q := OutQ X.K Dn) (a := Out.nx ρ) q rel _ env
theorem ss_brk {p : Pos} : PS X (.Break p) (tS X.K W fun ρ S => .ok (.bk ρ) S) :=
  PSwk ps_break fun Dn σ H ⟨ρ, S, as, rel, env, q⟩ => Post.here (EX := EXA X.K W) (Q := OutQ X.K Dn) (a := Out.bk ρ) q rel _ env
theorem ss_cnt {p : Pos} : PS X (.Continue p) (tS X.K W fun ρ S => .ok (.ct ρ) S) :=
  PSwk ps_continue fun Dn σ H ⟨ρ, S, as, rel, env, q⟩ => Post.here (EX := EXA X.K W) (Q := OutQ X.K Dn) (a := Out.ct ρ) q rel _ env
end
theorem cT_lone {g : Cfg} {n : Nat} {c : Sc} {t : Expr} {t' : AT} (h : cT g n c t = some t') (env : PySem.Env) : (assignEach [t] env).map (·.2) = [assign t env] ∧ ∀ es p, t ≠ .List es p := by
  refine ⟨by rw [assignEach_ok (cT_star h)]; rfl, fun es p e => ?_⟩
  subst e
  cases n <;> simp [cT] at h
theorem sound_s (g : Cfg) (k F : Nat) : ∀ n, (∀ (c : Sc) (s : Stmt) (ms : Stm), cS g n c s = some ms → ∀ (X : Cx) (W : WX), GoodS g k F X W → X.env.scope = c.sc → X.N = c.N → X.fn = c.fn → PS X s (tS X.K W (exec (call g.T F k) F ms))) ∧
    (∀ (c : Sc) (ss : List Stmt) (mss : Stms), cSs g n c ss = some mss → ∀ (X : Cx) (W : WX), GoodS g k F X W → X.env.scope = c.sc → X.N = c.N → X.fn = c.fn → PSs X ss (tS X.K W (execs (call g.T F k) F mss))) := by
  intro n
  induction n with
  | zero => exact ⟨fun c e t h => by simp [cS] at h, fun c e t h => by simp [cSs] at h⟩
  | succ n ih =>
  refine ⟨fun c e t h X W G hs hN hf => ?_, fun c es ts h X W G hs hN hf => ?_⟩
  · have hb : X.env.scope.kind = .function := G.kind
    have SE := sound_e g k F n
    unfold cS at h
    split at h
    · -- a comprehension stored
      rename_i t elt gens scope lp p
      split at h
      · rename_i x q
        split at h
        · rename_i hsw
          split at h
          · rename_i tg iter ifs
            split at h
            · rename_i i e' h1 h2
              cases h
              obtain ⟨y, q', ey, st⟩ := tgName_ok h1 hs hN hf
              cases ey
              cases n with
              | zero => simp [cE] at h2
              | succ n =>
              have hsw' := hsw
              simp only [swN, Bool.and_eq_true, beq_iff_eq, Bool.not_eq_true'] at hsw
              obtain ⟨s1, s2, s3⟩ := hsw
              have hl : X.env.scope.names.lookup x = some .local := by rw [hs]; exact s1
              have hswT := sw_true (elt := elt) (gs := [⟨tg, iter, ifs, 0⟩]) (scope := scope) (pos := lp) (py := q) (l := p.line) hb hl (by simpa using s2) s3
              have go : ∀ {t' : Tg} {i' : Es} {e' : E} {cd : Op}, compTg (blkSc c scope) tg = some t' → cEs g n c (iterOf c iter).2 = some i' → cE g n (blkSc c scope) elt = some e' → (tgSlots t').all (fun j => decide (j ∈ (ownOf c scope).map (·.2))) = true → blkC c.N c.sc scope (ownOf c scope) = true →
                  ((cd = .no ∧ ifs = []) ∨ ∃ d d', cd = .so d' ∧ ifs = [d] ∧ noIf d = true ∧ cE g n (blkSc c scope) d = some d') →
                  PS X (.Assign [.Name x q] (.ListComp elt [⟨tg, iter, ifs, 0⟩] scope lp) p) (tS X.K W (exec (call g.T F k) F (.asg (.nm i) (.lc e' t' (iterOf c iter).1 i' cd ((ownOf c scope).map (·.2)))))) := by
                intro t' i' e' cd h1 h2 h3 h4 hb' h5
                have L := lc_parts (fun m _ => sound_e g k F m) h1 h2 h3 h4 hb' h5 G.toGood hs hN hf
                exact PSeq (ss_asgLc (cl := call g.T F k) st hl (ss_lc G.calm G.nd st.1 hl hswT L)) fun ρ S => by simp only [exec, ev_lc]
              unfold cE at h2
              simp only at h2
              split at h2
              · rename_i hbk
                split at h2
                · rename_i t' i' e' a1 a2 a3
                  split at h2
                  · rename_i h4
                    cases h2
                    exact go a1 a2 a3 h4 hbk (.inl ⟨rfl, rfl⟩)
                  · cases h2
                · rename_i t' i' e' d a1 a2 a3
                  split at h2
                  · rename_i h4
                    rw [Option.map_eq_some_iff] at h2
                    obtain ⟨d', hd, rfl⟩ := h2
                    exact go a1 a2 a3 h4.2 hbk (.inr ⟨d, d', rfl, rfl, h4.1, hd⟩)
                  · cases h2
                · cases h2
              · cases h2
            · cases h
          · cases h
        · rename_i hsw
          split at h
          · rename_i i e' h1 h2
            cases h
            obtain ⟨y, q', ey, st⟩ := tgName_ok h1 hs hN hf
            cases ey
            have hoff := sw_off (elt := elt) (gs := gens) (pos := lp) (l := p.line) hs hb (by simpa using hsw)
            exact PSeq (ss_asg (mt := asgT (call g.T F k) (.nm i)) (SE.e c _ _ h2 X W G.toGood hs hN hf).1 (pg_nmT G.nd st) hoff rfl rfl) fun ρ S => by simp only [exec]
          · cases h
      · cases h
    · rename_i t e p hne
      split at h
      · rename_i i j a b hp
        split at h
        · rename_i a' b' h1 h2
          cases h
          have f1 := cE_fine h1
          have f2 := cE_fine h2
          obtain ⟨x, px, y, py, k1, p1, k2, p2, rfl, rfl, e1, e2, e3, e4, e5, e6⟩ := parOf_ok hs hb hp f1 f2
          exact PSeq (ss_par G.calm G.nd (by rw [hN]; exact ixOf_get e3) (by rw [hN]; exact ixOf_get e4) e5 e1 e2 (SE.e c _ _ h1 X W G.toGood hs hN hf).1 (SE.e c _ _ h2 X W G.toGood hs hN hf).1 f1 f2 e6) fun ρ S => by simp only [exec]
        · cases h
      · split at h
        · rename_i hc
          split at h
          · rename_i t' e' h1 h2
            cases h
            obtain ⟨l1, l2⟩ := cT_lone h1 X.env
            exact PSeq (ss_asg ((SE.e c _ _ h2 X W G.toGood hs hN hf).1) ((sound_t g k F n).1 c _ _ h1 X W G hs hN hf) (sw_no hc.2) (notPar_ok hs l2 hc.1) l1) fun ρ S => by simp only [exec]
          · cases h
        · cases h
    · split at h
      · rename_i e p hc
        rw [Option.map_eq_some_iff] at h
        obtain ⟨e', h1, rfl⟩ := h
        exact PSeq (ss_ex (SE.e c _ _ h1 X W G.toGood hs hN hf).1 (sw_no hc)) fun ρ S => by simp only [exec]
      · cases h
    · rw [Option.map_eq_some_iff] at h
      obtain ⟨e', h1, rfl⟩ := h
      exact PSeq (ss_ret (SE.e c _ _ h1 X W G.toGood hs hN hf).1) fun ρ S => by simp only [exec]
    · cases h
      exact PSeq ss_retN fun ρ S => by simp only [exec]
    · split at h
      · rename_i hn
        split at h
        · rename_i t' a' b' h0 h1 h2
          cases h
          exact PSeq (ss_if ((SE.e c _ _ h0 X W G.toGood hs hN hf).2.1 hn) (ih.2 c _ _ h1 X W G hs hN hf) (ih.2 c _ _ h2 X W G hs hN hf)) fun ρ S => by simp only [exec]
        · cases h
      · cases h
    · rename_i tg it b p
      split at h
      · rename_i t' i' b' h0 h1 h2
        cases h
        obtain ⟨pi, hs2⟩ := snd_iter (tg := tg) (fun m hm => sound_e g k F m) h1 G.toGood hs hN hf (SE.es c _ _ h1 X W G.toGood hs hN hf)
        refine PSeq (ss_for G.passes G.calm pi (compTg_ok h0 G.calm G.nd hs hN hf) (ih.2 c _ _ h2 X W G hs hN hf) hs2) fun ρ S => ?_
        simp only [exec, itm]
        cases evs (call g.T F k) i' ρ S with
        | no => rfl
        | ex c fs S1 => rfl
        | ok ds S1 =>
          simp only [R.bind_ok]
          cases iter' : Pv.iter (iterOf c it).1 ds S1 with
          | none => rfl
          | some q => rfl
      · cases h
    · split at h
      · rename_i hn
        split at h
        · rename_i t' b' h0 h1
          cases h
          exact PSeq (ss_while G.passes ((SE.e c _ _ h0 X W G.toGood hs hN hf).2.1 hn) (ih.2 c _ _ h1 X W G hs hN hf)) fun ρ S => by rw [exec]
        · cases h
      · cases h
    · cases h
      exact PSeq ss_brk fun ρ S => by simp only [exec]
    · cases h
      exact PSeq ss_cnt fun ρ S => by simp only [exec]
    · cases h
      exact PSeq ss_pass fun ρ S => by simp only [exec]
    · cases h
  · cases es with
    | nil =>
      simp only [cSs, Option.some.injEq] at h
      subst h
      exact PSseq ss_nil fun ρ S => by simp only [execs]
    | cons e r =>
      simp only [cSs] at h
      split at h
      · rename_i e' r' h1 h2
        cases h
        refine PSseq (ss_cons (ih.1 c _ _ h1 X W G hs hN hf) (ih.2 c _ _ h2 X W G hs hN hf)) fun ρ S => ?_
        simp only [execs] <;> rfl
      · cases h
end Pv
set_option Elab.async false
set_option linter.all false
set_option maxRecDepth 100000
set_option maxHeartbeats 4000000
namespace Pv
open PySem PySem.Spec PyProof.Rows L2
/-- nothing but plain parameters -/
def plainB (p : Arguments) : Bool := p.posonlyargs.isEmpty && (p.kwonlyargs.isEmpty && (p.vararg.isNone && (p.kwarg.isNone && decide ((p.args.map (·.arg)).Nodup))))
theorem lookup_zip_none {α : Type} {x : Str} : ∀ {ps : List Str} {us : List α}, x ∉ ps → (ps.zip us).lookup x = none
  | [], _, _ => rfl
  | _ :: _, [], _ => rfl
  | p :: ps, u :: us, h => by
    rw [List.zip_cons_cons, List.lookup_cons]
    have : (x == p) = false := by simpa using fun e => h (by simp [e])
    rw [this]
    exact lookup_zip_none fun z => h (by simp [z])
theorem lookup_zip {α : Type} : ∀ {ps : List Str} {us : List α}, ps.length = us.length → (∀ x ∈ ps, ((ps.zip us).lookup x).isNone = false)
  | [], _, _, x, hx => by simp at hx
  | p :: ps, [], h, x, hx => by simp at h
  | p :: ps, u :: us, h, x, hx => by
    rw [List.zip_cons_cons, List.lookup_cons]
    by_cases e : x = p
    · rw [e, beq_self_eq_true]; rfl
    · have : (x == p) = false := by simpa using e
      rw [this]
      exact lookup_zip (by simpa using h) x (by simpa [e] using hx)
theorem filterMap_zip {α : Type} : ∀ {ps : List Str} {us : List α} {m : List (Str × α)}, ps.Nodup → ps.length = us.length → (∀ x ∈ ps, m.lookup x = (ps.zip us).lookup x) → ps.filterMap (fun n => (m.lookup n).map (n, ·)) = ps.zip us
  | [], _, _, _, _, _ => rfl
  | p :: ps, [], _, _, h, _ => by simp at h
  | p :: ps, u :: us, m, nd, h, hm => by
    have e : m.lookup p = some u := by rw [hm p (by simp), List.zip_cons_cons, List.lookup_cons, beq_self_eq_true]
    rw [List.filterMap_cons_some (b := (p, u)) (by rw [e]; rfl), List.zip_cons_cons, filterMap_zip (List.nodup_cons.mp nd).2 (by simpa using h) fun x hx => ?_]
    rw [hm x (by simp [hx]), List.zip_cons_cons, List.lookup_cons]
    have : (x == p) = false := by simpa using fun e2 => (List.nodup_cons.mp nd).1 (by rw [← e2]; exact hx)
    rw [this]
theorem bind_plain {x qual : Str} {params : Arguments} {body : List Stmt} {scope : Scope} {kV doc pm : Value} {an : Option Addr} {cdv ct : Value} {us : List Value} (hp : plainB params = true) (hl : us.length = (params.args.map (·.arg)).length) :
    bindArgs (PySem.W.fnOf x qual params body scope .none kV doc pm an cdv ct) ⟨us, []⟩ = pure ((params.args.map (·.arg)).zip us) := by
  obtain ⟨po, ar, va, ko, kd, kw, df⟩ := params
  simp only [plainB, Bool.and_eq_true, List.isEmpty_iff, Option.isNone_iff_eq_none, decide_eq_true_eq] at hp
  obtain ⟨rfl, rfl, rfl, rfl, nd⟩ := hp
  simp only at hl nd ⊢
  generalize hps : ar.map (·.arg) = ps at hl nd ⊢
  have h0 : seqItems? Value.none = pure none := rfl
  unfold bindArgs
  simp only [PySem.W.fnOf, List.map_nil, List.nil_append, List.append_nil, hps, List.forIn_nil, pure_bind, h0]
  have e1 : (decide (us.length > ps.length) && true) = false := by simp; omega
  have e2 : (ps.take ps.length).filter (fun n => ((ps.zip us).lookup n).isNone) = [] := by
    rw [List.take_length, List.filter_eq_nil_iff]
    intro a ha
    rw [lookup_zip hl.symm a ha]; decide
  have e3 : ps.filterMap (fun n => ((ps.zip us).lookup n).map (n, ·)) = ps.zip us := filterMap_zip nd hl.symm fun _ _ => rfl
  simp [hl, e2, e3]
  intro x hx hn
  exfalso
  have q := lookup_zip hl.symm x hx
  cases e : (ps.zip us).lookup x with
  | none => rw [e] at q; cases q
  | some v => exact hn v (PySem.mem_of_lookup e)
/-! ### behind a call -/
section
variable {K : PySem.W.Frag}
mutual
theorem RepV.more {as : List Addr} {H : Hp} (m : List Addr) : ∀ (d : D) (v : V), RepV K as H d v → RepV K (as ++ m) H d v
  | .non, _, h => by simp only [RepV] at h ⊢; exact h
  | .bl _, _, h => by simp only [RepV] at h ⊢; exact h
  | .int _, _, h => by simp only [RepV] at h ⊢; exact h
  | .str _, _, h => by simp only [RepV] at h ⊢; exact h
  | .tup ds, _, h => by
    simp only [RepV] at h ⊢
    obtain ⟨a, vs, h1, h2, h3, h4⟩ := h
    exact ⟨a, vs, h1, h2, h3, RepVs.more m ds vs h4⟩
  | .fzl ds, _, h => by
    simp only [RepV] at h ⊢
    obtain ⟨a, vs, h1, h2, h3, h4⟩ := h
    exact ⟨a, vs, h1, h2, h3, RepVs.more m ds vs h4⟩
  | .ref i, _, h => by
    simp only [RepV] at h ⊢
    obtain ⟨a, h1, h2⟩ := h
    exact ⟨a, h1, by rw [List.getElem?_append_left (List.getElem?_eq_some_iff.mp h2).1]; exact h2⟩
theorem RepVs.more {as : List Addr} {H : Hp} (m : List Addr) : ∀ (ds : List D) (vs : List V), RepVs K as H ds vs → RepVs K (as ++ m) H ds vs
  | [], _, h => by simp only [RepVs] at h ⊢; exact h
  | d :: ds, _, h => by
    simp only [RepVs] at h ⊢
    obtain ⟨v, r, h1, h2, h3⟩ := h
    exact ⟨v, r, h1, RepV.more m d v h2, RepVs.more m ds r h3⟩
end
mutual
theorem RepV.less {as : List Addr} {H : Hp} (n : Nat) : ∀ (d : D) (v : V), d.lt n = true → RepV K as H d v → RepV K (as.take n) H d v
  | .non, _, _, h => by simp only [RepV] at h ⊢; exact h
  | .bl _, _, _, h => by simp only [RepV] at h ⊢; exact h
  | .int _, _, _, h => by simp only [RepV] at h ⊢; exact h
  | .str _, _, _, h => by simp only [RepV] at h ⊢; exact h
  | .tup ds, _, l, h => by
    simp only [RepV] at h ⊢
    simp only [D.lt] at l
    obtain ⟨a, vs, h1, h2, h3, h4⟩ := h
    exact ⟨a, vs, h1, h2, h3, RepVs.less n ds vs l h4⟩
  | .fzl ds, _, l, h => by
    simp only [RepV] at h ⊢
    simp only [D.lt] at l
    obtain ⟨a, vs, h1, h2, h3, h4⟩ := h
    exact ⟨a, vs, h1, h2, h3, RepVs.less n ds vs l h4⟩
  | .ref i, _, l, h => by
    simp only [RepV] at h ⊢
    simp only [D.lt, decide_eq_true_eq] at l
    obtain ⟨a, h1, h2⟩ := h
    exact ⟨a, h1, by rw [List.getElem?_take_of_lt l]; exact h2⟩
theorem RepVs.less {as : List Addr} {H : Hp} (n : Nat) : ∀ (ds : List D) (vs : List V), D.lts n ds = true → RepVs K as H ds vs → RepVs K (as.take n) H ds vs
  | [], _, _, h => by simp only [RepVs] at h ⊢; exact h
  | d :: ds, _, l, h => by
    simp only [RepVs] at h ⊢
    simp only [D.lts, Bool.and_eq_true] at l
    obtain ⟨v, r, h1, h2, h3⟩ := h
    exact ⟨v, r, h1, RepV.less n d v l.1 h2, RepVs.less n ds r l.2 h3⟩
end
mutual
theorem RepV.lt {as : List Addr} {H : Hp} : ∀ (d : D) (v : V), RepV K as H d v → d.lt as.length = true
  | .non, _, h => rfl
  | .bl _, _, h => rfl
  | .int _, _, h => rfl
  | .str _, _, h => rfl
  | .tup ds, _, h => by
    simp only [RepV] at h
    obtain ⟨a, vs, h1, h2, h3, h4⟩ := h
    exact RepVs.lt ds vs h4
  | .fzl ds, _, h => by
    simp only [RepV] at h
    obtain ⟨a, vs, h1, h2, h3, h4⟩ := h
    exact RepVs.lt ds vs h4
  | .ref i, _, h => by
    simp only [RepV] at h
    obtain ⟨a, h1, h2⟩ := h
    simp only [D.lt, decide_eq_true_eq]
    exact (List.getElem?_eq_some_iff.mp h2).1
theorem RepVs.lt {as : List Addr} {H : Hp} : ∀ (ds : List D) (vs : List V), RepVs K as H ds vs → D.lts as.length ds = true
  | [], _, h => rfl
  | d :: ds, _, h => by
    simp only [RepVs] at h
    obtain ⟨v, r, h1, h2, h3⟩ := h
    simp only [D.lts, Bool.and_eq_true]
    exact ⟨RepV.lt d v h2, RepVs.lt ds r h3⟩
end
theorem RepK.less {as : List Addr} {H : Hp} (n : Nat) : ∀ (ds : List (Key × D)) (vs : List (Key × V)), D.lts n (ds.map (·.2)) = true → RepK K as H ds vs → RepK K (as.take n) H ds vs
  | [], _, _, h => by simp only [RepK] at h ⊢; exact h
  | (k, d) :: ds, _, l, h => by
    simp only [RepK] at h ⊢
    simp only [List.map_cons, D.lts, Bool.and_eq_true] at l
    obtain ⟨v, r, h1, h2, h3, h4⟩ := h
    exact ⟨v, r, h1, h2, RepV.less n d v l.1 h3, RepK.less n ds r l.2 h4⟩
theorem RepK.more {as : List Addr} {H : Hp} (m : List Addr) : ∀ (ds : List (Key × D)) (vs : List (Key × V)), RepK K as H ds vs → RepK K (as ++ m) H ds vs
  | [], _, h => by simp only [RepK] at h ⊢; exact h
  | (k, d) :: ds, _, h => by
    simp only [RepK] at h ⊢
    obtain ⟨v, r, h1, h2, h3, h4⟩ := h
    exact ⟨v, r, h1, h2, RepV.more m d v h3, RepK.more m ds r h4⟩
theorem RepK.lt {as : List Addr} {H : Hp} : ∀ (ds : List (Key × D)) (vs : List (Key × V)), RepK K as H ds vs → D.lts as.length (ds.map (·.2)) = true
  | [], _, h => rfl
  | (k, d) :: ds, _, h => by
    simp only [RepK] at h
    obtain ⟨v, r, h1, h2, h3, h4⟩ := h
    simp only [List.map_cons, D.lts, Bool.and_eq_true]
    exact ⟨RepV.lt d v h3, RepK.lt ds r h4⟩
theorem CellR.less {as : List Addr} {H : Hp} {a : Addr} {n : Nat} : ∀ {c : Cell}, c.lt n = true → CellR K as H a c → CellR K (as.take n) H a c
  | .lst ds, l, h => by
    simp only [CellR] at h ⊢
    obtain ⟨vs, h1, h2, h3⟩ := h
    exact ⟨vs, h1, h2, RepVs.less n ds vs l h3⟩
  | .dic false kvs, l, h => by
    simp only [CellR] at h ⊢
    obtain ⟨vs, h1, h2, h3⟩ := h
    exact ⟨vs, h1, h2, RepK.less n kvs vs l h3⟩
  | .dic true kvs, l, h => by
    simp only [CellR] at h ⊢
    obtain ⟨o, vs, h1, h2, h3⟩ := h
    exact ⟨o, vs, h1, h2, RepK.less n kvs vs l h3⟩
  | .ins _ _, l, h => by simp only [CellR] at h
theorem CellR.more {as : List Addr} {H : Hp} {a : Addr} (m : List Addr) : ∀ {c : Cell}, CellR K as H a c → CellR K (as ++ m) H a c
  | .lst ds, h => by
    simp only [CellR] at h ⊢
    obtain ⟨vs, h1, h2, h3⟩ := h
    exact ⟨vs, h1, h2, RepVs.more m ds vs h3⟩
  | .dic false kvs, h => by
    simp only [CellR] at h ⊢
    obtain ⟨vs, h1, h2, h3⟩ := h
    exact ⟨vs, h1, h2, RepK.more m kvs vs h3⟩
  | .dic true kvs, h => by
    simp only [CellR] at h ⊢
    obtain ⟨o, vs, h1, h2, h3⟩ := h
    exact ⟨o, vs, h1, h2, RepK.more m kvs vs h3⟩
  | .ins _ _, h => by simp only [CellR] at h
theorem CellR.lt {as : List Addr} {H : Hp} {a : Addr} : ∀ {c : Cell}, CellR K as H a c → c.lt as.length = true
  | .lst ds, h => by
    simp only [CellR] at h
    obtain ⟨vs, h1, h2, h3⟩ := h
    exact RepVs.lt ds vs h3
  | .dic false kvs, h => by
    simp only [CellR] at h
    obtain ⟨vs, h1, h2, h3⟩ := h
    exact RepK.lt kvs vs h3
  | .dic true kvs, h => by
    simp only [CellR] at h
    obtain ⟨o, vs, h1, h2, h3⟩ := h
    exact RepK.lt kvs vs h3
  | .ins _ _, h => by simp only [CellR] at h
theorem gc_ok {EX : XW} {as as' : List Addr} {H H' : Hp} {S S' : Store} {d : D} {v : V} {Q : VK} (rel : RelS K as H S) (x : Ext as H as' H') (rel' : RelS K as' H' S') (hv : RepV K as' H' d v) (h : Post K EX as H (gc S d S') (VQ K Q)) : Q v H' := by
  unfold gc at h
  obtain ⟨m, em⟩ := x.more
  have tk : as'.take S.length = as := by rw [em, ← rel.len]; exact List.take_left
  split at h
  case isFalse => exact h as' H' x rel' v hv
  rename_i hc
  obtain ⟨c1, c2⟩ := hc
  have x0 : Ext as H as H' := ⟨⟨[], by simp⟩, x.keep, fun _ h => .inl h⟩
  have cl : ∀ (i : Nat) (c : Cell) (a : Addr), (S'.take S.length)[i]? = some c → as[i]? = some a → CellR K as H' a c := fun i c a h1 h2 => by
    have hi : i < S.length := by rw [← rel.len]; exact (List.getElem?_eq_some_iff.mp h2).1
    rw [List.getElem?_take_of_lt hi] at h1
    have hca : CellR K as' H' a c := rel'.cell i c a h1 (x.get h2)
    have hl : c.lt S.length = true := by
      rcases c2 i c hi h1 with q | q
      · rw [← rel.len]; exact (rel.cell i c a q h2).lt
      · exact q
    have := hca.less hl
    rwa [tk] at this
  have r0 : RelS K as H' (S'.take S.length) := ⟨by rw [List.length_take, rel.len]; omega, rel.nd, cl⟩
  split at h
  · rename_i hl
    have := RepV.less S.length d v hl hv
    rw [tk] at this
    exact h as H' x0 r0 v this
  · split at h
    · rename_i i hl
      split at h
      case h_2 => exact h as' H' x rel' v hv
      rename_i c ec
      split at h
      case isFalse => exact h as' H' x rel' v hv
      rename_i hcl
      simp only [RepV] at hv
      obtain ⟨a, rfl, ea⟩ := hv
      have hi : S.length ≤ i := by
        simp only [D.lt, decide_eq_true_eq] at hl
        omega
      have hna : a ∉ as := fun z => by
        have h2 := rel'.nd
        have ea2 := ea
        rw [em] at h2 ea2
        rw [List.getElem?_append_right (by rw [rel.len]; exact hi)] at ea2
        exact (List.nodup_append.mp h2).2.2 a z a (List.mem_of_getElem? ea2) rfl
      have hca : CellR K as H' a c := by
        have := (rel'.cell i c a ec ea).less hcl
        rwa [tk] at this
      refine h (as ++ [a]) H' ⟨⟨[a], rfl⟩, x.keep, fun b hb => ?_⟩ ⟨?_, ?_, fun j cj b h1 h2 => ?_⟩ (.ref a) ?_
      · rcases List.mem_append.mp hb with hb | hb
        · exact .inl hb
        · simp at hb; subst hb
          exact x.fresh b (List.mem_of_getElem? ea)
      · rw [List.length_append, List.length_append, r0.len]; rfl
      · rw [List.nodup_append]
        refine ⟨rel.nd, by simp, fun b hb e he => ?_⟩
        simp at he; subst he
        exact fun z => hna (by rw [← z]; exact hb)
      · by_cases hj : j < as.length
        · rw [List.getElem?_append_left hj] at h2
          rw [List.getElem?_append_left (by rw [← r0.len]; exact hj)] at h1
          exact (cl j cj b h1 h2).more [a]
        · rw [List.getElem?_append_right (by omega)] at h2
          rw [List.getElem?_append_right (by rw [← r0.len]; omega), ← r0.len] at h1
          have e0 : j - as.length = 0 := by
            have := (List.getElem?_eq_some_iff.mp h2).1
            simp at this; omega
          rw [e0] at h1 h2
          cases h1; cases h2
          exact hca.more [a]
      · simp only [RepV]
        exact ⟨a, rfl, by rw [List.getElem?_append_right (by rw [rel.len]; exact Nat.le_refl _), rel.len, Nat.sub_self]; rfl⟩
    · exact h as' H' x rel' v hv
theorem fin_ok {as : List Addr} {H : Hp} {S : Store} {r : R Out} {Q : VK} {E : XK} (rel : RelS K as H S) (h : Post K (fun c fs _ as' H' => ∀ cls dx, ExnR K as' H' c fs cls dx → E cls dx H') as H (fin S r) (VQ K Q)) :
    Post K (EXA K fun cls d _ H => E cls d H) as H r (OutQ K { nx := fun _ H' => Q .non H', rt := Q }) := by
  cases r with
  | no => exact h
  | ex c fs S' => exact fun as' H' x r σ cls dx q => h as' H' x r cls dx q
  | ok o S' =>
    intro as' H' x rel'
    cases o with
    | nx ρ => exact fun σ' _ => gc_ok rel x rel' (by simp only [RepV]) h
    | ret d => exact fun v hv => gc_ok rel x rel' hv h
    | bk ρ => exact h.elim
    | ct ρ => exact h.elim
theorem start_env {as : List Addr} {H : Hp} {ds : List D} {vs : List V} {N : List Str} (h : RepVs K as H ds vs) : EnvR K as H (ds.map some ++ List.replicate (N.length - ds.length) none) (L2.start N vs) := by
  have hl := h.length
  unfold L2.start
  refine ⟨by simp [hl], fun i d e => ?_⟩
  by_cases hi : i < ds.length
  · rw [List.getElem?_append_left (by simpa using hi), List.getElem?_map] at e
    cases e2 : ds[i]? with
    | none => rw [e2] at e; cases e
    | some d2 =>
      rw [e2] at e
      cases e
      obtain ⟨v, h1, h2⟩ := RepVs.get i d h e2
      exact ⟨v, by rw [List.getElem?_append_left (by simpa [hl] using hi), List.getElem?_map, h1]; rfl, h2⟩
  · rw [List.getElem?_append_right (by simpa using hi)] at e
    rw [List.getElem?_replicate] at e
    split at e <;> cases e
end
/-- the table's entry stands as a def in the heap -/
structure EntOk (K : PySem.W.Frag) (mg : Str → Option Value) (g : Cfg) (f : Str) (fn : Fn) : Prop where
  ex : ∃ (a : Addr) (fd : FuncData) (x qual : Str) (params : Arguments) (body : List Stmt) (scope : Scope) (N : List Str) (n : Nat), mg f = some (.ref a) ∧ FunD K x qual params body scope [] [] a fd ∧ plainB params = true ∧
    FnScope N (params.args.map (·.arg)) scope ∧ params.args.length = fn.np ∧ N.length = fn.ns ∧ cSs g n ⟨scope, N, fun _ => true⟩ body = some fn.body
/-- what is known of the globals -/
structure GlOk (K : PySem.W.Frag) (mg : Str → Option Value) (g : Cfg) : Prop where
  own : ∀ f fn, g.T.lookup f = some fn → EntOk K mg g f fn
  blt : ∀ x, x ∈ bNames → mg x = none
  glb : ∀ x d, g.G.lookup x = some d → ∃ u v, mg x = some u ∧ RelV v u ∧ ∀ as H, RepV K as H d v
theorem own_step {P : Program} {w : World} {K : PySem.W.Frag} {mg : Str → Option Value} {base : Heap} {g : Cfg} (G : GlOk K mg g) (F k : Nat)
    (ih : ∀ f fn, g.T.lookup f = some fn → ∃ a fd ps, mg f = some (.ref a) ∧ PySem.W.keepIn K (.ref a) = true ∧ Binds K fd ps [] ∧ FnG P w K mg base (L2.CX P w) k a fd ps (spD K fn.np (call g.T F k f)))
    {f : Str} {fn : Fn} (hl : g.T.lookup f = some fn) {a : Addr} {fd : FuncData} {x qual : Str} {params : Arguments} {body : List Stmt} {scope : Scope} {N : List Str} {n : Nat} (h2 : FunD K x qual params body scope [] [] a fd)
    (h4 : FnScope N (params.args.map (·.arg)) scope) (h5 : params.args.length = fn.np) (h6 : N.length = fn.ns) (h7 : cSs g n ⟨scope, N, fun _ => true⟩ body = some fn.body) :
    FnG P w K mg base (L2.CX P w) (k + 1) a fd (params.args.map (·.arg)) (spD K fn.np (call g.T F (k + 1) f)) := by
  refine FnG.of h2 h4 (fun vs H Q E ⟨as, S, ds, _, q2, q3, _⟩ => by rw [q2.length, q3, List.length_map, h5]) fun cdv A outer s H vs Q E hgd room sp => ?_
  have GS : GoodS g k F (cxOf (L2.CX P w) P w K mg base N qual scope a cdv A outer s H E) (fun cls d _ H => E cls d H) :=
    ⟨⟨rfl, h4.nd, room, hgd, takes_of rfl rfl rfl rfl, ih, G.blt, G.glb⟩, passes_of rfl, h4.kind⟩
  refine ⟨_, (sound_s g k F n).2 _ _ _ h7 _ _ GS rfl rfl rfl, ?_⟩
  obtain ⟨as, S, ds, q1, q2, q3, q4⟩ := sp
  unfold call at q4
  simp only [hl] at q4
  split at q4
  case isFalse => exact q4.elim
  rename_i hc
  refine ⟨_, S, as, q1, ?_, fin_ok q1 q4⟩
  rw [← h6, ← hc.1]
  exact start_env q2
theorem own_ok {P : Program} {w : World} {K : PySem.W.Frag} {mg : Str → Option Value} {base : Heap} {g : Cfg} (G : GlOk K mg g) (F : Nat) : ∀ k f fn, g.T.lookup f = some fn →
    ∃ a fd ps, mg f = some (.ref a) ∧ PySem.W.keepIn K (.ref a) = true ∧ Binds K fd ps [] ∧ FnG P w K mg base (L2.CX P w) k a fd ps (spD K fn.np (call g.T F k f)) := by
  intro k
  induction k with
  | zero =>
    intro f fn hl
    obtain ⟨a, fd, x, qual, params, body, scope, N, n, h1, h2, h3, h4, h5, h6, h7⟩ := (G.own f fn hl).ex
    have no : ∀ vs H Q E, ¬ spD K fn.np (call g.T F 0 f) vs H Q E := fun vs H Q E ⟨as, S, ds, _, _, _, q⟩ => q
    exact ⟨a, fd, params.args.map (·.arg), h1, h2.kp, h2.bindsN fun kV doc pm an cdv ct us hl => bind_plain h3 hl, fun vs H Q E q => absurd q (no vs H Q E), fun A outer s H args us vs Q E _ _ _ _ _ q => absurd q (no vs H Q E)⟩
  | succ k ih =>
    intro f fn hl
    obtain ⟨a, fd, x, qual, params, body, scope, N, n, h1, h2, h3, h4, h5, h6, h7⟩ := (G.own f fn hl).ex
    exact ⟨a, fd, params.args.map (·.arg), h1, h2.kp, h2.bindsN fun kV doc pm an cdv ct us hl => bind_plain h3 hl, own_step G F k ih hl h2 h4 h5 h6 h7⟩
end Pv
set_option Elab.async false
set_option linter.all false
set_option maxRecDepth 100000
set_option maxHeartbeats 4000000
/-! from the head's facts to the law -/
namespace Pv
open PySem PySem.Spec PyProof.Rows L2
/-- a row of the table is a def of the text, and its body is compiled -/
structure EntIn (g : Cfg) (fa : List He.Fa) (fn : List He.DefD) (f : Str) (b : Fn) : Prop where
  ex : ∃ (d : He.DefD) (N : List Str) (n : Nat), d ∈ fn ∧ He.Fa.glo f ∈ fa ∧ d.at_ = (f, none) ∧ d.dfl = [] ∧ d.kwd = [] ∧ plainB d.params = true ∧ FnScope N (d.params.args.map (·.arg)) d.scope ∧ d.params.args.length = b.np ∧ N.length = b.ns ∧
    cSs g n ⟨d.scope, N, fun _ => true⟩ d.body = some b.body
/-- a constant of the text -/
def conB (fa : List He.Fa) : Str × D → Prop
  | (x, .int i) => He.Fa.int x i ∈ fa
  | (x, .str s) => He.Fa.str x s ∈ fa ∧ PyData.strOk s = true
  | _ => False
structure AllIn (g : Cfg) (fa : List He.Fa) (fn : List He.DefD) : Prop where
  ent : ∀ p ∈ g.T, EntIn g fa fn p.1 p.2
  blt : ∀ x ∈ bNames, He.Fa.free x ∈ fa
  con : ∀ p ∈ g.G, conB fa p
theorem AllIn.gl {g : Cfg} {fa : List He.Fa} {fn : List He.DefD} {ts : List He.Tab} {tf : List He.Defn} {ex : PySem.W.Frag → Bool} {w : World} {K : PySem.W.Frag} {h : Heap} {mg : Str → Option Value} (A : AllIn g fa fn) (X : K.In h) (G : h.Ns mainGlobals mg) (c : He.SaysD fa fn K) : GlOk K mg g := by
  refine ⟨fun f b hl => ⟨?_⟩, fun x hx => He.free_ok X G (c.facts (A.blt x hx)), fun x d hl => ?_⟩
  · obtain ⟨d, N, n, h1, h2, h3, h4, h5, h6, h7, h8, h9, h10⟩ := (A.ent _ (PySem.mem_of_lookup hl)).ex
    obtain ⟨fd, F⟩ := c.defs h1
    have e1 : d.dvs K = [] := by unfold He.DefD.dvs; rw [h4]; rfl
    have e2 : d.kws K = [] := by unfold He.DefD.kws; rw [h5]; rfl
    have e3 : He.fAd K d.at_ = He.ga K f := by rw [h3]; rfl
    rw [e1, e2, e3] at F
    exact ⟨_, fd, _, _, _, _, _, N, n, He.glo_ok X G (c.facts h2), F, h6, h7, h8, h9, h10⟩
  · have q := A.con _ (PySem.mem_of_lookup hl)
    cases d with
    | int i =>
      obtain ⟨t, e⟩ := He.int_ok X G (c.facts (f := .int x i) q)
      exact ⟨_, .int i, e, ⟨t, rfl⟩, fun as H => by simp only [RepV]⟩
    | str s =>
      obtain ⟨t, e⟩ := He.str_ok X G (c.facts (f := .str x s) q.1)
      exact ⟨_, .str s, e, ⟨t, rfl⟩, fun as H => by simp only [RepV]; exact ⟨trivial, q.2⟩⟩
    | _ => exact q.elim
/-- THE LAW, from what the small interpreter says -/
theorem walk_pv {l : PySem.W.OpenLaw} {n k F : Nat} {q : Program} {loose : List Str} {XP : (Str → Option Value) → Heap → Prop} {d : DefRec} {g : Cfg} {m : Nat} {fa : List He.Fa} {fn : List He.DefD} {ts : List He.Tab} {tf : List He.Defn} {ex : PySem.W.Frag → Bool} {b : Fn} {nm : Str}
    (hn : l.most = some n) (hn2 : n ≤ sizeLine) (hdf : d.params.defaults = []) (hr : Room k callerA) (A : AllIn g fa fn) (hnm : d.name = nm) (hl : g.T.lookup nm = some b) (hnp : b.np = 1)
    (run : ∀ ns : List Int, ns.length ≤ n → ∃ S, call g.T F k nm [.fzl (ns.map .int)] [] = .ok (.bl true) S) :
    PySem.W.WalkO q loose XP (He.hookX m fa fn ts tf ex).says l.row.toRowW d [] (fun f vs => PySem.call f vs) := by
  subst hnm
  refine Att.attach_call hn hdf fun w s₀ s₁ mg mb fa' o pm cd doc a vs ns G Y ho hd hcd hmg hobj hints hlen hg => ?_
  obtain ⟨K, KX, c⟩ := Y
  have GL : GlOk K mg g := A.gl (ts := ts) (tf := tf) (ex := ex) (w := w) KX G.T.g c.t.d
  obtain ⟨a', fd, x, qual, params, body, scope, N, z, h1, h2, h3, h4, h5, h6, h7⟩ := (GL.own _ _ hl).ex
  obtain rfl : fa' = a' := by rw [hmg] at h1; cases h1; rfl
  cases k with
  | zero =>
    obtain ⟨S, e⟩ := run [] (Nat.zero_le _)
    cases e
  | succ k =>
  obtain ⟨y, hy⟩ : ∃ y, params.args.map (·.arg) = [y] := by
    rw [hnp] at h5
    cases hq : params.args with
    | nil => rw [hq] at h5; cases h5
    | cons u r =>
      rw [hq] at h5
      cases r with
      | nil => exact ⟨u.arg, rfl⟩
      | cons _ _ => cases h5
  have key : ∀ base : Heap, FnG l.prog w K mg base (L2.CX l.prog w) (k + 1) fa' fd [y] (spD K 1 (call g.T F (k + 1) d.name)) := fun base => by
    have := own_step (P := l.prog) (w := w) (base := base) GL F k (own_ok GL F k) hl h2 h4 h5 h6 h7
    rw [hy, hnp] at this
    exact this
  have hbd := FunD.bindsA (ps := [y]) h2 fun kV doc pm an cdv ct us hu => by
    rw [← hy]
    exact bind_plain h3 (by rw [hy]; exact hu)
  refine law_callG (ns := ns) (CX := L2.CX l.prog w) KX G.T.g G.T.b G.T.builtins G.T.nolimit hg hobj hints (Nat.le_trans hlen hn2) hr (fun base _ _ => key base) (fun s u => hbd s [u] rfl) (fun H hO hS => ?_) fun H e s' ⟨_, _, _, _, _, _, _, _, _, _, _, _, hf⟩ => hf
  obtain ⟨S, e⟩ := run ns hlen
  have fz : FzL K H a (ns.map V.int) := by
    rcases hS with (z | ⟨o, z⟩) | z
    · rcases hO a with q | ⟨o, xs, q⟩
      · rw [q] at z; cases z
      · rw [q] at z; cases z
    · exact .inl ⟨o, z⟩
    · exact .inr z
  refine ⟨[], [], [.fzl (ns.map .int)], ⟨rfl, List.nodup_nil, fun i c a h => by simp at h⟩, ?_, rfl, ?_⟩
  · simp only [RepVs]
    refine ⟨.ref a, [], rfl, ?_, rfl⟩
    simp only [RepV]
    exact ⟨a, _, rfl, fz, by rw [List.length_map]; exact Nat.le_trans hlen hn2, RepVs.mapInt [] H ns⟩
  · rw [e]
    intro as' H' x r v hv
    simpa only [RepV] using hv
end Pv
set_option Elab.async false
set_option linter.all false
set_option maxRecDepth 100000
set_option maxHeartbeats 4000000
/-! reckoning in the small interpreter -/
namespace Pv
open PySem PySem.Spec PyProof.Rows L2
@[irreducible] def WP {α : Type} (r : R α) (Q : α → Store → Prop) : Prop := match r with
  | .ok a S => Q a S
  | _ => False
section
variable {α β : Type} {Q Q' : α → Store → Prop}
theorem wp_ok (a : α) (S : Store) : WP (.ok a S) Q = Q a S := by unfold WP; rfl
theorem wp_no : WP (.no : R α) Q = False := by unfold WP; rfl
theorem wp_bind (r : R β) (f : β → Store → R α) : WP (r.bind f) Q = WP r fun b S => WP (f b S) Q := by cases r <;> unfold WP <;> rfl
theorem wp_isB (b : Bool) (S : Store) (f : Bool → R α) : WP (isB (.bl b) S f) Q = WP (f b) Q := rfl
theorem WP.mono {r : R α} (h : WP r Q) (f : ∀ a S, Q a S → Q' a S) : WP r Q' := by
  unfold WP at h ⊢
  cases r with
  | ok a S => exact f a S h
  | _ => exact h
theorem WP.ok_of {r : R α} (h : WP r Q) : ∃ a S, r = .ok a S ∧ Q a S := by
  unfold WP at h
  cases r with
  | ok a S => exact ⟨a, S, rfl, h⟩
  | _ => exact h.elim
theorem WP.of_eq {r : R α} {a : α} {S : Store} (e : r = .ok a S) (h : Q a S) : WP r Q := by rw [e, wp_ok]; exact h
theorem wp_noex {r : R α} (h : WP r Q) : WP r.noex Q := by
  unfold WP at h ⊢
  cases r with
  | ok a S => exact h
  | _ => exact h
theorem noex_ok (a : α) (S : Store) : (R.ok a S).noex = .ok a S := rfl
theorem wp_alloc {Q : D → Store → Prop} (c : Cell) (S : Store) : WP (alloc c S) Q = Q (.ref S.length) (S ++ [c]) := by unfold alloc; rw [wp_ok]
theorem wp_retB {Q : D → Store → Prop} {o : Option Bool} {b : Bool} {S : Store} (e : o = some b) (h : Q (.bl b) S) : WP (retB o S) Q := by rw [e]; unfold retB; rw [wp_ok]; exact h
end
/-! ### loops -/
theorem wp_lc {f : D → Store → R (Option D)} {g : Option Nat} {all : List D} {Q : List D → Store → Prop} (I : Nat → List D → Store → Prop)
    (st : ∀ i ys S, I i ys S → stands g all S)
    (step : ∀ i x ys S, all[i]? = some x → I i ys S → WP (f x S) fun o S' => I (i + 1) (ys ++ o.toList) S')
    (done : ∀ ys S, I all.length ys S → Q ys S) : ∀ (xs : List D) (i : Nat) (ys : List D) (S : Store), all.drop i = xs → i ≤ all.length → I i ys S → WP (lcGo f g all xs S) fun zs S' => Q (ys ++ zs) S'
  | [], i, ys, S, e, hi, h => by
    have hl : all.length ≤ i := List.drop_eq_nil_iff.mp e
    have : i = all.length := by omega
    subst this
    unfold lcGo
    rw [if_pos (st _ _ _ h), wp_ok, List.append_nil]
    exact done _ _ h
  | x :: xs, i, ys, S, e, hi, h => by
    have hlt : i < all.length := by
      by_cases q : i < all.length
      · exact q
      · rw [List.drop_eq_nil_iff.mpr (by omega)] at e; cases e
    rw [List.drop_eq_getElem_cons hlt] at e
    injection e with e1 e2
    unfold lcGo
    rw [if_pos (st _ _ _ h), wp_bind]
    refine (step i x ys S (by rw [List.getElem?_eq_getElem hlt, e1]) h).mono fun o S' h' => ?_
    rw [wp_bind]
    refine (wp_lc I st step done xs (i + 1) _ S' e2 (by omega) h').mono fun zs S2 q => ?_
    rw [wp_ok]
    cases o with
    | none => simpa using q
    | some y => simpa using q
theorem wp_for {body : D → Env → Store → R Out} {g : Option Nat} {all : List D} {Q : Out → Store → Prop} (I : Nat → Env → Store → Prop)
    (st : ∀ i ρ S, I i ρ S → stands g all S)
    (step : ∀ i x ρ S, all[i]? = some x → I i ρ S → WP (body x ρ S) fun o S' => match o with
      | .nx ρ' => I (i + 1) ρ' S'
      | .ct ρ' => I (i + 1) ρ' S'
      | .bk ρ' => Q (.nx ρ') S'
      | .ret d => Q (.ret d) S')
    (done : ∀ ρ S, I all.length ρ S → Q (.nx ρ) S) : ∀ (xs : List D) (i : Nat) (ρ : Env) (S : Store), all.drop i = xs → i ≤ all.length → I i ρ S → WP (forGo body g all xs ρ S) Q
  | [], i, ρ, S, e, hi, h => by
    have hl : all.length ≤ i := List.drop_eq_nil_iff.mp e
    have : i = all.length := by omega
    subst this
    unfold forGo
    rw [if_pos (st _ _ _ h), wp_ok]
    exact done _ _ h
  | x :: xs, i, ρ, S, e, hi, h => by
    have hlt : i < all.length := by
      by_cases q : i < all.length
      · exact q
      · rw [List.drop_eq_nil_iff.mpr (by omega)] at e; cases e
    rw [List.drop_eq_getElem_cons hlt] at e
    injection e with e1 e2
    unfold forGo
    rw [if_pos (st _ _ _ h), wp_bind]
    refine (step i x ρ S (by rw [List.getElem?_eq_getElem hlt, e1]) h).mono fun o S' h' => ?_
    cases o with
    | nx ρ' => exact wp_for I st step done xs (i + 1) ρ' S' e2 (by omega) h'
    | ct ρ' => exact wp_for I st step done xs (i + 1) ρ' S' e2 (by omega) h'
    | bk ρ' => rw [wp_ok]; exact h'
    | ret d => rw [wp_ok]; exact h'
theorem wp_wh {tst : Env → Store → R D} {body : Env → Store → R Out} {Q : Out → Store → Prop} (I : Nat → Env → Store → Prop)
    (step : ∀ m ρ S, I m ρ S → WP (tst ρ S) fun d S1 => (d = .bl false ∧ Q (.nx ρ) S1) ∨ (d = .bl true ∧ WP (body ρ S1) fun o S2 => match o with
      | .nx ρ' => ∃ m', m' < m ∧ I m' ρ' S2
      | .ct ρ' => ∃ m', m' < m ∧ I m' ρ' S2
      | .bk ρ' => Q (.nx ρ') S2
      | .ret d => Q (.ret d) S2)) : ∀ (n m : Nat) (ρ : Env) (S : Store), m < n → I m ρ S → WP (whGo tst body n ρ S) Q
  | 0, m, _, _, h, _ => absurd h (Nat.not_lt_zero m)
  | n + 1, m, ρ, S, h, i => by
    unfold whGo
    rw [wp_bind]
    refine (step m ρ S i).mono fun d S1 q => ?_
    rcases q with ⟨rfl, q⟩ | ⟨rfl, q⟩
    · rw [wp_isB, if_neg (by decide), wp_ok]; exact q
    · rw [wp_isB, if_pos rfl, wp_bind]
      refine q.mono fun o S2 q => ?_
      cases o with
      | nx ρ' => obtain ⟨m', l, q⟩ := q; exact wp_wh I step n m' ρ' S2 (by omega) q
      | ct ρ' => obtain ⟨m', l, q⟩ := q; exact wp_wh I step n m' ρ' S2 (by omega) q
      | bk ρ' => rw [wp_ok]; exact q
      | ret d => rw [wp_ok]; exact q
/-! ### calls -/
theorem wp_call {T : Tbl} {F k : Nat} {f : Str} {fn : Fn} {ds : List D} {S : Store} {Q : D → Store → Prop} (hl : T.lookup f = some fn) (hn : ds.length = fn.np) (hs : fn.np ≤ fn.ns)
    (h : WP (execs (call T F k) F fn.body (ds.map some ++ List.replicate (fn.ns - fn.np) none) S) fun o S' => match o with
      | .ret d => WP (gc S d S') Q
      | .nx _ => WP (gc S .non S') Q
      | _ => False) : WP (call T F (k + 1) f ds S) Q := by
  unfold call
  simp only [hl]
  rw [if_pos ⟨hn, hs⟩]
  cases e : execs (call T F k) F fn.body (ds.map some ++ List.replicate (fn.ns - fn.np) none) S with
  | ok o S' =>
    rw [e, wp_ok] at h
    cases o <;> first | exact h | exact h.elim
  | ex c fs S' => rw [e] at h; unfold WP at h; exact h.elim
  | no => rw [e, wp_no] at h; exact h.elim
/-- nothing is left: the store grew only -/
theorem gc_plain {S : Store} {d : D} {more : List Cell} (hd : d.lt S.length = true) : gc S d (S ++ more) = .ok d S := by
  unfold gc
  rw [if_pos, if_pos hd, List.take_left]
  refine ⟨by simp, fun i c hi e => .inl ?_⟩
  rwa [List.getElem?_append_left hi] at e
theorem gc_self {S : Store} {d : D} (hd : d.lt S.length = true) : gc S d S = .ok d S := by
  have := gc_plain (S := S) (more := []) hd
  rwa [List.append_nil] at this
/-- what a new list, returned, comes to -/
theorem gc_new {S : Store} {i : Nat} {c : Cell} {S' : Store} (hl : S.length ≤ S'.length) (h : S'[i]? = some c) : ∃ j S'', gc S (.ref i) S' = .ok (.ref j) S'' ∧ S''[j]? = some c ∧ S.length ≤ S''.length ∧ (∀ p, p < S.length → S''[p]? = S'[p]?) := by
  unfold gc
  split
  · split
    · rename_i hlt
      simp only [D.lt, decide_eq_true_eq] at hlt
      exact ⟨i, _, rfl, by rw [List.getElem?_take_of_lt hlt]; exact h, by simp; omega, fun p hp => List.getElem?_take_of_lt hp⟩
    · simp only [h]
      split
      · refine ⟨S.length, _, rfl, ?_, by simp; omega, fun p hp => ?_⟩
        · have : (S'.take S.length).length = S.length := by simp; omega
          rw [List.getElem?_append_right (by omega), this, Nat.sub_self]; rfl
        · rw [List.getElem?_append_left (by simp; omega), List.getElem?_take_of_lt hp]
      · exact ⟨i, S', rfl, h, hl, fun _ _ => rfl⟩
  · exact ⟨i, S', rfl, h, hl, fun _ _ => rfl⟩
/-- anything else returned -/
theorem gc_any {S : Store} {d : D} {S' : Store} (hl : S.length ≤ S'.length) (hd : ∀ i, d ≠ .ref i) : ∃ S'', gc S d S' = .ok d S'' ∧ S.length ≤ S''.length ∧ (∀ p, p < S.length → S''[p]? = S'[p]?) ∧ (d.lt S.length = true ∨ S'' = S') := by
  unfold gc
  split
  · split
    · rename_i hlt
      exact ⟨_, rfl, by simp; omega, fun p hp => List.getElem?_take_of_lt hp, .inl hlt⟩
    · cases d <;> first | exact ⟨S', rfl, hl, fun _ _ => rfl, .inr rfl⟩ | exact absurd rfl (hd _)
  · exact ⟨S', rfl, hl, fun _ _ => rfl, .inr rfl⟩
end Pv
set_option Elab.async false
set_option linter.all false
set_option maxRecDepth 100000
/-! the same small syntax, run over values: lists and dicts are values, a call gives back what it changed -/
namespace Pq
open PySem PySem.Spec PyProof.Rows L2 Pv

inductive W where
  | non | bl (b : Bool) | int (i : Int) | str (s : Str) | tup (ws : List W) | fzl (ws : List W) | lst (ws : List W) | dic (kvs : List (Key × W))
  deriving Inhabited
abbrev QEnv := List (Option W)
inductive QR (α : Type) where
  | ok (a : α) (ρ : QEnv)
  | ex (c : Str) (fs : List (Str × W)) (ρ : QEnv)
  | no
def QR.bind {α β : Type} (r : QR α) (f : α → QEnv → QR β) : QR β := match r with
  | .ok a S => f a S
  | .ex c fs S => .ex c fs S
  | .no => .no
/-- how a slot is used: shared, owned, borrowed -/
inductive Kd where
  | sh | ow | bo
  deriving DecidableEq, Inhabited
structure QFn where
  np : Nat
  ns : Nat
  kd : List Kd
  fresh : Bool
  body : Stms
abbrev QTbl := List (Str × QFn)
abbrev QCl := Str → List W → QR W

/-! ### values -/
def pdW : Nat → W → Option PyData
  | 0, _ => none
  | _ + 1, .non => some .none
  | _ + 1, .bl b => some (.bool b)
  | _ + 1, .int i => some (.int i)
  | _ + 1, .str s => some (.str s)
  | n + 1, .tup ds => (ds.mapM (pdW n)).map .tuple
  | n + 1, .fzl ds => (ds.mapM (pdW n)).map .list
  | n + 1, .lst ds => (ds.mapM (pdW n)).map .list
  | _ + 1, .dic _ => none
def eqW (x y : W) : Option Bool := match pdW 60 x, pdW 60 y with
  | some a, some b => some (PyData.eqv a b)
  | _, _ => none
def keyW : W → Option Key
  | .int i => some (.inl i)
  | .str s => some (.inr s)
  | _ => none
def wsign (c : Nat) : W := .str ⟨#[c]⟩
def wkey : Key → W
  | .inl i => .int i
  | .inr s => .str s
def inW (x y : W) : Option Bool := match y with
  | .str z => (match x with
    | .str s => (match s.cps.toList with
      | [c] => some (decide (c ∈ z.cps.toList))
      | _ => none)
    | _ => none)
  | .lst ds => (match pdW 60 x, ds.mapM (pdW 59) with
      | some a, some bs => some (bs.any fun b => PyData.eqv b a)
      | _, _ => none)
  | .dic kvs => (match keyW x with
      | some k => some (dget kvs k).isSome
      | none => none)
  | .tup ds => (match pdW 60 x, ds.mapM (pdW 59) with
      | some a, some bs => some (bs.any fun b => PyData.eqv b a)
      | _, _ => none)
  | _ => none
def isNonW : W → Bool
  | .non => true
  | _ => false
def binopW (op : Operator) (x y : W) : Option W := match op, x, y with
  | .Add, .int i, .int j => some (.int (i + j))
  | .Add, .str a, .str b => if a.length + b.length ≤ sizeLine then some (.str (a ++ b)) else none
  | .Add, .tup a, .tup b => if a.length + b.length ≤ sizeLine then some (.tup (a ++ b)) else none
  | .Add, .lst a, .lst b => if a.length + b.length ≤ sizeLine then some (.lst (a ++ b)) else none
  | .Sub, .int i, .int j => some (.int (i - j))
  | .Mult, .int i, .int j => if (-(2 ^ 64) < i ∧ i < 2 ^ 64) ∨ (-(2 ^ 64) < j ∧ j < 2 ^ 64) then some (.int (i * j)) else none
  | .Mult, .str a, .int j => if -1000 ≤ j ∧ j ≤ 1000 ∧ a.length ≤ 1000 then some (.str ⟨(List.replicate j.toNat a.cps.toList).flatten.toArray⟩) else none
  | .FloorDiv, .int i, .int j => if 0 < j ∧ j < 1267650600228229401496703205376 then some (.int (i / j)) else none
  | .Mod, .int i, .int j => if 0 < j then some (.int (i % j)) else none
  | .Pow, .int i, .int j => if 0 ≤ j ∧ j ≤ 1000 ∧ -(2 ^ 63) < i ∧ i < 2 ^ 63 then some (.int (i ^ j.toNat)) else none
  | _, _, _ => none
def ltW : W → W → Option Bool
  | .int i, .int j => some (decide (i < j))
  | .str a, .str b => some (decide (a.cps.toList < b.cps.toList))
  | _, _ => none
def cmpopW (op : CmpOp) (x y : W) : Option Bool := match op with
  | .Eq => eqW x y
  | .NotEq => (eqW x y).map fun b => !b
  | .Lt => ltW x y
  | .Gt => ltW y x
  | .LtE => (ltW y x).map fun b => !b
  | .GtE => (ltW x y).map fun b => !b
  | .Is => (match y with
    | .non => some (isNonW x)
    | _ => none)
  | .IsNot => (match y with
    | .non => some (!isNonW x)
    | _ => none)
  | .In => inW x y
  | .NotIn => (inW x y).map fun b => !b
def subW (x i : W) : Option W := match x, i with
  | .tup ds, .int k => atI ds k
  | .fzl ds, .int k => atI ds k
  | .lst ds, .int k => atI ds k
  | .str z, .int k => if z.length ≤ sizeLine then (atI z.cps.toList k).map wsign else none
  | .dic kvs, k => (keyW k).bind fun k => dget kvs k
  | _, _ => none
def slcW (x : W) (lo hi : Option Int) : Option W := match x with
  | .tup ds => some (.tup (cutD ds lo hi))
  | .fzl ds => some (.lst (cutD ds lo hi))
  | .lst ds => some (.lst (cutD ds lo hi))
  | .str z => if z.length ≤ sizeLine then some (.str (cutS z lo hi)) else none
  | _ => none
def rvW : W → Option W
  | .tup ds => some (.tup ds.reverse)
  | .fzl ds => some (.lst ds.reverse)
  | .lst ds => some (.lst ds.reverse)
  | _ => none
def isiW (x : W) (t : Ty) : Bool := match x with
  | .non => false
  | .bl _ => (match t with | .int => true | .bool => true | _ => false)
  | .int _ => (match t with | .int => true | _ => false)
  | .str _ => (match t with | .str => true | _ => false)
  | .tup _ => (match t with | .tuple => true | _ => false)
  | .fzl _ => (match t with | .list => true | _ => false)
  | .lst _ => (match t with | .list => true | _ => false)
  | .dic _ => (match t with | .dict => true | _ => false)
def intsW : List W → Option (List Int)
  | [] => some []
  | .int i :: r => (intsW r).map (i :: ·)
  | _ => none
def blsW : List W → Option (List Bool)
  | [] => some []
  | .bl b :: r => (blsW r).map (b :: ·)
  | _ => none
def strsW : List W → Option (List Str)
  | [] => some []
  | .str s :: r => (strsW r).map (s :: ·)
  | _ => none
def seqW : W → Option (List W)
  | .tup ds => some ds
  | .fzl ds => some ds
  | .lst ds => some ds
  | .dic kvs => some (kvs.map fun p => wkey p.1)
  | _ => none
def sortW (ds : List W) : Option (List W) := match strsW ds with
  | some ss => some ((ss.mergeSort leS).map .str)
  | none => match intsW ds with
    | some is => some ((is.mergeSort fun a b => decide (a ≤ b)).map .int)
    | none => none
def pairsW : List W → Option (List (Key × W))
  | [] => some []
  | .tup [k, d] :: r => (match keyW k, pairsW r with
    | some k, some ps => some ((k, d) :: ps)
    | _, _ => none)
  | _ => none
def mergeW (acc more : List (Key × W)) : List (Key × W) := more.foldl (fun acc kv => dput acc kv.1 kv.2) acc
def biW (f : B) (ds : List W) : Option W := match f, ds with
  | .len, [.str s] => if s.length ≤ sizeLine then some (.int s.length) else none
  | .len, [x] => (seqW x).map fun xs => .int xs.length
  | .abs, [.int i] => some (.int (if i < 0 then -i else i))
  | .all, [.lst xs] => (blsW xs).map fun bs => .bl (bs.all id)
  | .sum, [.lst xs] => (intsW xs).map fun bs => .int bs.sum
  | .min2, [.int i, .int j] => some (.int (if j < i then j else i))
  | .max2, [.int i, .int j] => some (.int (if j > i then j else i))
  | .repr, [x] => (match pdW 60 x with
    | some p => if p.showable = true ∧ p.shown.length ≤ sizeLine ∧ PyData.strOk p.shown = true then some (.str p.shown) else none
    | none => none)
  | .list, [.str z] => if z.length ≤ sizeLine then some (.lst (z.cps.toList.map wsign)) else none
  | .list, [x] => (seqW x).map .lst
  | .tuple, [.tup xs] => some (.tup xs)
  | .tuple, [.fzl xs] => some (.tup xs)
  | .tuple, [.lst xs] => some (.tup xs)
  | .dict, [.lst xs] => (pairsW xs).map fun ps => .dic (mergeW [] ps)
  | .dict, [.dic kvs] => some (.dic kvs)
  | .int, [.int i] => some (.int i)
  | .int, [.bl b] => some (.int (if b then 1 else 0))
  | .sorted, [.lst xs] => if xs.length < 64 then (sortW xs).map .lst else none
  | .sorted, [.dic kvs] => if kvs.length < 64 then (sortW (kvs.map fun p => wkey p.1)).map .lst else none
  | _, _ => none
/-- a method that changes its list or dict -/
def muM : M → Bool
  | .append => true | .extend => true | .pop0 => true | .pop1 => true | .pop2 => true | .update => true | .clear => true | .reverse => true | _ => false
def muW (m : M) (x : W) (ds : List W) : Option (W × W) := match m, x, ds with
  | .append, .lst xs, [d] => if xs.length < sizeLine then some (.non, .lst (xs ++ [d])) else none
  | .extend, .lst xs, [.lst ys] => if xs.length + ys.length ≤ sizeLine then some (.non, .lst (xs ++ ys)) else none
  | .pop0, .lst xs, [] => (xs[xs.length - 1]?).map fun d => (d, .lst xs.dropLast)
  | .pop1, .dic kvs, [k] => (keyW k).bind fun k => (dget kvs k).map fun d => (d, .dic (ddrop kvs k))
  | .pop2, .dic kvs, [k, e] => (keyW k).map fun k => (match dget kvs k with
    | some d => (d, .dic (ddrop kvs k))
    | none => (e, .dic kvs))
  | _, _, _ => none
def miW (m : M) (x : W) (ds : List W) : Option W := match m, x, ds with
  | .index, .str z, [.str s] => (match Builtin.Str.occurrences z s 0 z.length 1 with
    | i :: _ => some (.int (i : Nat))
    | [] => none)
  | .index, .lst xs, [d] => (match pdW 60 d, xs.mapM (pdW 59) with
      | some a, some bs => (match bs.findIdx? (fun b => PyData.eqv b a) with
        | some j => some (.int (j : Nat))
        | none => none)
      | _, _ => none)
  | .upper, .str z, [] => if z.length ≤ 5592405 ∧ PyData.strOk (Txt.upper z) = true then some (.str (Txt.upper z)) else none
  | .get1, .dic kvs, [k] => (keyW k).map fun k => (dget kvs k).getD .non
  | .get2, .dic kvs, [k, d] => (keyW k).map fun k => (dget kvs k).getD d
  | .join, .str z, [.lst xs] => (match strsW xs with
      | some ys => if (ys.map (·.length)).sum + ys.length * z.length ≤ 16777216 then some (.str (Txt.join z ys)) else none
      | none => none)
  | _, _, _ => none
def iterQ (ik : IK) (ds : List W) : Option (List W) := match ik, ds with
  | .plain, [.tup xs] => some xs
  | .plain, [.fzl xs] => some xs
  | .plain, [.lst xs] => some xs
  | .plain, [.str z] => some (z.cps.toList.map wsign)
  | .range, [.int j] => if j ≤ 16777216 ∧ -16777216 ≤ j then some ((List.range j.toNat).map fun (k : Nat) => W.int (0 + k)) else none
  | .range, [.int i, .int j] => if j ≤ 16777216 ∧ -16777216 ≤ j ∧ i ≤ 16777216 ∧ -16777216 ≤ i then some ((List.range (j - i).toNat).map fun (k : Nat) => W.int (i + k)) else none
  | .rev, [.str z] => if z.length ≤ sizeLine then some ((z.cps.toList.map wsign).reverse) else none
  | _, _ => none
mutual
def ofD : D → W
  | .non => .non
  | .bl b => .bl b
  | .int i => .int i
  | .str s => .str s
  | .tup ds => .tup (ofDs ds)
  | .fzl ds => .fzl (ofDs ds)
  | .ref _ => .non
def ofDs : List D → List W
  | [] => []
  | d :: ds => ofD d :: ofDs ds
end
/-! ### running -/
def bindQ (t : Tg) (d : W) (ρ : QEnv) : Option QEnv := match t with
  | .nm i => if i < ρ.length then some (ρ.set i (some d)) else none
  | .tp is => match d with
    | .tup ds => if ds.length = is.length ∧ ∀ i ∈ is, i < ρ.length then some ((is.zip ds).foldl (fun ρ p => ρ.set p.1 (some p.2)) ρ) else none
    | _ => none
def wipeQ (ρ : QEnv) : List Nat → QEnv
  | [] => ρ
  | v :: vs => (wipeQ ρ vs).set v none
/-- behind a comprehension its own names are as before -/
def backQ (ρ0 ρ : QEnv) : List Nat → QEnv
  | [] => ρ
  | v :: vs => (backQ ρ0 ρ vs).set v ((ρ0[v]?).getD none)
def lcQ (f : W → QEnv → QR (Option W)) : List W → QEnv → QR (List W)
  | [], ρ => .ok [] ρ
  | x :: xs, ρ => (f x ρ).bind fun o ρ1 => (lcQ f xs ρ1).bind fun ys ρ2 => .ok (match o with
    | some y => y :: ys
    | none => ys) ρ2
def QR.noex {α : Type} : QR α → QR α
  | .ok a S => .ok a S
  | _ => .no
def optQ {α : Type} (o : Option α) (ρ : QEnv) : QR α := match o with
  | some w => .ok w ρ
  | none => .no
def isBQ {α : Type} (x : W) (k : Bool → QR α) : QR α := match x with
  | .bl b => k b
  | _ => .no
/-- what stands in the slots that are handed on, at the call -/
def getAs (ρ : QEnv) : List (Nat ⊕ W) → Option (List W)
  | [] => some []
  | .inl i :: r => (match ρ[i]?, getAs ρ r with
    | some (some w), some ws => some (w :: ws)
    | _, _ => none)
  | .inr w :: r => (getAs ρ r).map (w :: ·)
def putAs (ρ : QEnv) : List (Nat ⊕ W) → QEnv → QEnv
  | .inl i :: r, o :: os => (putAs ρ r os).set i o
  | .inr _ :: r, _ :: os => putAs ρ r os
  | _, _ => ρ
/-- what a call gave back stands in its names -/
def QR.back (r : QR W) (ρ : QEnv) (as : List (Nat ⊕ W)) : QR W := match r with
  | .ok w os => .ok w (putAs ρ as os)
  | .ex c fs os => .ex c fs (putAs ρ as os)
  | .no => .no
/-- an owned name is handed on as a name -/
def argOf (k : Kd) (e : E) (x : W) : Nat ⊕ W := match e with
  | .var i => if k = .ow then .inl i else .inr x
  | _ => .inr x
mutual
def evQ (cl : QCl) (T : QTbl) : E → QEnv → QR W
  | .var i, ρ => match ρ[i]? with
    | some (some d) => .ok d ρ
    | _ => .no
  | .cst d, ρ => .ok (ofD d) ρ
  | .glb _ d, ρ => .ok (ofD d) ρ
  | .bin op a b, ρ => (evQ cl T a ρ).bind fun x ρ1 => (evQ cl T b ρ1).bind fun y ρ2 => optQ (binopW op x y) ρ2
  | .neg a, ρ => (evQ cl T a ρ).bind fun x ρ1 => match x with
    | .int i => .ok (.int (-i)) ρ1
    | _ => .no
  | .not a, ρ => (evQ cl T a ρ).bind fun x ρ1 => isBQ x fun b => .ok (.bl (!b)) ρ1
  | .and a b, ρ => (evQ cl T a ρ).bind fun x ρ1 => isBQ x fun c => if c = true then evQ cl T b ρ1 else .ok (.bl false) ρ1
  | .or a b, ρ => (evQ cl T a ρ).bind fun x ρ1 => isBQ x fun c => if c = true then .ok (.bl true) ρ1 else evQ cl T b ρ1
  | .ite t a b, ρ => (evQ cl T t ρ).bind fun x ρ1 => isBQ x fun c => if c = true then evQ cl T a ρ1 else evQ cl T b ρ1
  | .cmp op a b, ρ => (evQ cl T a ρ).bind fun x ρ1 => (evQ cl T b ρ1).bind fun y ρ2 => optQ ((cmpopW op x y).map .bl) ρ2
  | .chn o p a b c, ρ => (evQ cl T a ρ).bind fun x ρ1 => (evQ cl T b ρ1).bind fun y ρ2 => (optQ (cmpopW o x y) ρ2).bind fun k ρ3 =>
    if k = true then (evQ cl T c ρ3).bind fun z ρ4 => optQ ((cmpopW p y z).map .bl) ρ4 else .ok (.bl false) ρ3
  | .tup es, ρ => (evsQ cl T es ρ).bind fun ds ρ1 => if ds.length ≤ sizeLine then .ok (.tup ds) ρ1 else .no
  | .lst es, ρ => (evsQ cl T es ρ).bind fun ds ρ1 => if ds.length ≤ sizeLine then .ok (.lst ds) ρ1 else .no
  | .dic es, ρ => match es with
    | .nil => .ok (.dic []) ρ
    | _ => .no
  | .sub a i, ρ => (evQ cl T a ρ).bind fun x ρ1 => (evQ cl T i ρ1).bind fun y ρ2 => optQ (subW x y) ρ2
  | .slc a lo hi, ρ => (evQ cl T a ρ).bind fun x ρ1 => (evoQ cl T lo ρ1).bind fun l ρ2 => (evoQ cl T hi ρ2).bind fun u ρ3 => optQ (slcW x l u) ρ3
  | .rvs a, ρ => (evQ cl T a ρ).bind fun x ρ1 => optQ (rvW x) ρ1
  | .cal f es, ρ => match T.lookup f with
    | none => .no
    | some fn => (evA cl T fn.kd es ρ).bind fun as ρ1 => match getAs ρ1 as with
      | none => .no
      | some ws => (cl f ws).back ρ1 as
  | .blt f es, ρ => (evsQ cl T es ρ).bind fun ds ρ1 => optQ (biW f ds) ρ1
  | .mth m a es, ρ => if muM m = true then (match a with
      | .var i => (evsQ cl T es ρ).bind fun ws ρ1 => (match ρ1[i]? with
        | some (some x) => (match muW m x ws with
          | some (r, x') => .ok r (ρ1.set i (some x'))
          | none => .no)
        | _ => .no)
      | _ => .no) else (evQ cl T a ρ).bind fun x ρ1 => (evsQ cl T es ρ1).bind fun ws ρ2 => optQ (miW m x ws) ρ2
  | .isi a t, ρ => (evQ cl T a ρ).bind fun x ρ1 => .ok (.bl (isiW x t)) ρ1
  | .lc elt tg ik es cd own, ρ => (evsQ cl T es ρ).bind fun ds ρ1 => match iterQ ik ds with
    | none => .no
    | some xs => (QR.noex (lcQ (fun d ρ2 => match bindQ tg d (wipeQ ρ2 own) with
        | none => .no
        | some ρ' => match cd with
          | .no => (evQ cl T elt ρ').bind fun y ρ3 => .ok (some y) ρ3
          | .so c => (evQ cl T c ρ').bind fun t ρ3 => isBQ t fun b => if b = true then (evQ cl T elt ρ3).bind fun y ρ4 => .ok (some y) ρ4 else .ok none ρ3) xs ρ1)).bind fun ys ρ2 =>
      if xs.length ≤ sizeLine then .ok (.lst ys) (backQ ρ1 ρ2 own) else .no
def evsQ (cl : QCl) (T : QTbl) : Es → QEnv → QR (List W)
  | .nil, ρ => .ok [] ρ
  | .cons e es, ρ => (evQ cl T e ρ).bind fun x ρ1 => (evsQ cl T es ρ1).bind fun xs ρ2 => .ok (x :: xs) ρ2
def evoQ (cl : QCl) (T : QTbl) : Op → QEnv → QR (Option Int)
  | .no, ρ => .ok none ρ
  | .so e, ρ => (evQ cl T e ρ).bind fun x ρ1 => match x with
    | .int i => .ok (some i) ρ1
    | _ => .no
/-- arguments: an owned name is looked up when all of them are there -/
def evA (cl : QCl) (T : QTbl) : List Kd → Es → QEnv → QR (List (Nat ⊕ W))
  | _, .nil, ρ => .ok [] ρ
  | k :: ks, .cons e es, ρ => (evQ cl T e ρ).bind fun x ρ1 => (evA cl T ks es ρ1).bind fun xs ρ2 => .ok (argOf k e x :: xs) ρ2
  | [], .cons _ _, _ => .no
end
inductive QO where
  | nx | ret (d : W) | bk | ct
def setW (x i d : W) : Option W := match x, i with
  | .lst ds, .int k => (ixN ds.length k).map fun j => .lst (ds.set j d)
  | .dic kvs, k => (keyW k).bind fun k => if kvs.length < sizeLine then some (.dic (dput kvs k d)) else none
  | _, _ => none
mutual
def asgQ (cl : QCl) (T : QTbl) : AT → W → QEnv → QR Unit
  | .nm i, d, ρ => if i < ρ.length then .ok () (ρ.set i (some d)) else .no
  | .tp ts, d, ρ => match d with
    | .tup ds => if ds.length = atsLen ts then asgsQ cl T ts ds ρ else .no
    | _ => .no
  | .sub a i, d, ρ => match a with
    | .var x => (evQ cl T i ρ).bind fun k ρ1 => (match ρ1[x]? with
      | some (some c) => (match setW c k d with
        | some c' => .ok () (ρ1.set x (some c'))
        | none => .no)
      | _ => .no)
    | _ => .no
def asgsQ (cl : QCl) (T : QTbl) : ATs → List W → QEnv → QR Unit
  | .nil, [], ρ => .ok () ρ
  | .cons t ts, d :: ds, ρ => (asgQ cl T t d ρ).bind fun _ ρ' => asgsQ cl T ts ds ρ'
  | _, _, _ => .no
end
def forQ (body : W → QEnv → QR QO) : List W → QEnv → QR QO
  | [], ρ => .ok .nx ρ
  | x :: xs, ρ => (body x ρ).bind fun o ρ1 => match o with
    | .nx => forQ body xs ρ1
    | .ct => forQ body xs ρ1
    | .bk => .ok .nx ρ1
    | .ret d => .ok (.ret d) ρ1
def whQ (tst : QEnv → QR W) (body : QEnv → QR QO) : Nat → QEnv → QR QO
  | 0, _ => .no
  | n + 1, ρ => (tst ρ).bind fun x ρ1 => isBQ x fun b => if b = true then (body ρ1).bind fun o ρ2 => match o with
    | .nx => whQ tst body n ρ2
    | .ct => whQ tst body n ρ2
    | .bk => .ok .nx ρ2
    | .ret d => .ok (.ret d) ρ2 else .ok .nx ρ1
mutual
def execQ (cl : QCl) (T : QTbl) (F : Nat) : Stm → QEnv → QR QO
  | .asg t e, ρ => (evQ cl T e ρ).bind fun d ρ1 => (asgQ cl T t d ρ1).bind fun _ ρ2 => .ok .nx ρ2
  | .par i j a b, ρ => (evQ cl T a ρ).bind fun x ρ1 => (evQ cl T b ρ1).bind fun y ρ2 => if i < ρ2.length ∧ j < ρ2.length then .ok .nx ((ρ2.set i (some x)).set j (some y)) else .no
  | .ex e, ρ => (evQ cl T e ρ).bind fun _ ρ1 => .ok .nx ρ1
  | .ret e, ρ => (evQ cl T e ρ).bind fun d ρ1 => .ok (.ret d) ρ1
  | .retN, ρ => .ok (.ret .non) ρ
  | .ife t a b, ρ => (evQ cl T t ρ).bind fun x ρ1 => isBQ x fun c => if c = true then execsQ cl T F a ρ1 else execsQ cl T F b ρ1
  | .for t ik es b, ρ => (evsQ cl T es ρ).bind fun ds ρ1 => match iterQ ik ds with
    | none => .no
    | some xs => forQ (fun d ρ' => match bindQ t d ρ' with
        | none => .no
        | some ρ'' => execsQ cl T F b ρ'') xs ρ1
  | .whl t b, ρ => whQ (fun ρ' => evQ cl T t ρ') (fun ρ' => execsQ cl T F b ρ') F ρ
  | .brk, ρ => .ok .bk ρ
  | .cnt, ρ => .ok .ct ρ
  | .pas, ρ => .ok .nx ρ
def execsQ (cl : QCl) (T : QTbl) (F : Nat) : Stms → QEnv → QR QO
  | .nil, ρ => .ok .nx ρ
  | .cons s ss, ρ => (execQ cl T F s ρ).bind fun o ρ1 => match o with
    | .nx => execsQ cl T F ss ρ1
    | o => .ok o ρ1
end
/-- what a call gives back of its parameters: the owned ones -/
def maskQ : List Kd → QEnv → QEnv
  | k :: ks, o :: os => (if k = .ow then o else none) :: maskQ ks os
  | _, _ => []
def finQ (fn : QFn) (r : QR QO) : QR W := match r with
  | .ok (.ret d) ρ => .ok d (maskQ fn.kd (ρ.take fn.np))
  | .ok .nx ρ => .ok .non (maskQ fn.kd (ρ.take fn.np))
  | .ok _ _ => .no
  | .ex c fs ρ => .ex c fs (maskQ fn.kd (ρ.take fn.np))
  | .no => .no
def callQ (T : QTbl) (F : Nat) : Nat → QCl
  | 0 => fun _ _ => .no
  | k + 1 => fun f ds => match T.lookup f with
    | none => .no
    | some fn => if ds.length = fn.np ∧ fn.np ≤ fn.ns ∧ fn.kd.length = fn.ns then finQ fn (execsQ (callQ T F k) T F fn.body (ds.map some ++ List.replicate (fn.ns - fn.np) none)) else .no
def QTbl.plain (T : QTbl) : Tbl := T.map fun p => (p.1, ⟨p.2.np, p.2.ns, p.2.body⟩)
end Pq
set_option Elab.async false
set_option linter.all false
set_option maxRecDepth 100000
set_option maxHeartbeats 1000000
/-! how values stand for what lies in the store -/
namespace Pq
open PySem PySem.Spec PyProof.Rows L2 Pv

/-- cells that nobody changes any more, with what they are -/
abbrev Fz := Nat → Option W
mutual
def Rep (Z : Fz) : W → D → Prop
  | .non, d => d = .non
  | .bl b, d => d = .bl b
  | .int i, d => d = .int i
  | .str s, d => d = .str s
  | .tup ws, d => ∃ ds, d = .tup ds ∧ RepL Z ws ds
  | .fzl ws, d => ∃ ds, d = .fzl ds ∧ RepL Z ws ds
  | .lst ws, d => ∃ j, d = .ref j ∧ Z j = some (.lst ws)
  | .dic kvs, d => ∃ j, d = .ref j ∧ Z j = some (.dic kvs)
def RepL (Z : Fz) : List W → List D → Prop
  | [], ds => ds = []
  | w :: ws, ds => ∃ d r, ds = d :: r ∧ Rep Z w d ∧ RepL Z ws r
end
def RepK2 (Z : Fz) : List (Key × W) → List (Key × D) → Prop
  | [], ks => ks = []
  | (k, w) :: r, ks => ∃ d q, ks = (k, d) :: q ∧ Rep Z w d ∧ RepK2 Z r q
def RepC (Z : Fz) : W → Cell → Prop
  | .lst ws, .lst ds => RepL Z ws ds
  | .dic kvs, .dic false ks => RepK2 Z kvs ks
  | _, _ => False
def FzOk (Z : Fz) (S : Store) : Prop := ∀ j w, Z j = some w → ∃ c, S[j]? = some c ∧ RepC Z w c
def Vw (Z : Fz) (S : Store) (w : W) (d : D) : Prop := Rep Z w d ∨ ∃ j c, d = .ref j ∧ S[j]? = some c ∧ RepC Z w c
def atomW : W → Bool
  | .lst _ => false
  | .dic _ => false
  | _ => true
def Frs (n : Nat) (Z : Fz) (S : Store) (w : W) (d : D) : Prop := (atomW w = true ∧ Rep Z w d) ∨ ∃ j c, d = .ref j ∧ n ≤ j ∧ Z j = none ∧ S[j]? = some c ∧ RepC Z w c
def Own (Z : Fz) (S : Store) (w : W) (d : D) : Prop := Frs 0 Z S w d
/-- what a step makes: a thing that is no list, or one new cell -/
def NewR (Z : Fz) (S : Store) (w : W) (r : R D) : Prop := (∃ d, r = .ok d S ∧ atomW w = true ∧ Rep Z w d) ∨ ∃ c, r = .ok (.ref S.length) (S ++ [c]) ∧ RepC Z w c
def Mono (Z Z' : Fz) : Prop := ∀ j w, Z j = some w → Z' j = some w
section
variable {Z Z' : Fz} {S S' : Store}
mutual
theorem Rep.mono (m : Mono Z Z') : ∀ (w : W) (d : D), Rep Z w d → Rep Z' w d
  | .non, _, h => by simp only [Rep] at h ⊢; exact h
  | .bl _, _, h => by simp only [Rep] at h ⊢; exact h
  | .int _, _, h => by simp only [Rep] at h ⊢; exact h
  | .str _, _, h => by simp only [Rep] at h ⊢; exact h
  | .tup ws, _, h => by simp only [Rep] at h ⊢; obtain ⟨ds, e, q⟩ := h; exact ⟨ds, e, RepL.mono m ws ds q⟩
  | .fzl ws, _, h => by simp only [Rep] at h ⊢; obtain ⟨ds, e, q⟩ := h; exact ⟨ds, e, RepL.mono m ws ds q⟩
  | .lst kvs, _, h => by simp only [Rep] at h ⊢; obtain ⟨j, e, q⟩ := h; exact ⟨j, e, m _ _ q⟩
  | .dic kvs, _, h => by simp only [Rep] at h ⊢; obtain ⟨j, e, q⟩ := h; exact ⟨j, e, m _ _ q⟩
theorem RepL.mono (m : Mono Z Z') : ∀ (ws : List W) (ds : List D), RepL Z ws ds → RepL Z' ws ds
  | [], _, h => by simp only [RepL] at h ⊢; exact h
  | w :: ws, _, h => by
    simp only [RepL] at h ⊢
    obtain ⟨d, r, e, h1, h2⟩ := h
    exact ⟨d, r, e, Rep.mono m w d h1, RepL.mono m ws r h2⟩
end
theorem RepK2.mono (m : Mono Z Z') : ∀ (ws : List (Key × W)) (ds : List (Key × D)), RepK2 Z ws ds → RepK2 Z' ws ds
  | [], _, h => h
  | (k, w) :: ws, _, h => by
    obtain ⟨d, r, e, h1, h2⟩ := h
    exact ⟨d, r, e, h1.mono m, RepK2.mono m ws r h2⟩
theorem RepC.mono (m : Mono Z Z') {w : W} {c : Cell} (h : RepC Z w c) : RepC Z' w c := by
  unfold RepC at h ⊢
  split at h
  · exact RepL.mono m _ _ h
  · exact RepK2.mono m _ _ h
  · exact h.elim
theorem repL_len : ∀ {ws : List W} {ds : List D}, RepL Z ws ds → ds.length = ws.length
  | [], _, h => by simp only [RepL] at h; rw [h]; rfl
  | w :: ws, _, h => by simp only [RepL] at h; obtain ⟨d, r, rfl, _, q⟩ := h; rw [List.length_cons, List.length_cons, repL_len q]
theorem repL_get : ∀ {ws : List W} {ds : List D} {i : Nat} {w : W}, RepL Z ws ds → ws[i]? = some w → ∃ d, ds[i]? = some d ∧ Rep Z w d
  | [], _, _, _, _, q => by simp at q
  | w :: ws, _, 0, _, h, q => by
    simp only [RepL] at h; obtain ⟨d, r, rfl, h1, _⟩ := h
    simp at q; subst q; exact ⟨d, rfl, h1⟩
  | w :: ws, _, i + 1, _, h, q => by
    simp only [RepL] at h; obtain ⟨d, r, rfl, _, h2⟩ := h
    rw [List.getElem?_cons_succ] at q ⊢
    exact repL_get h2 q
theorem repL_app : ∀ {ws : List W} {ds : List D} {us : List W} {es : List D}, RepL Z ws ds → RepL Z us es → RepL Z (ws ++ us) (ds ++ es)
  | [], _, _, _, h, g => by simp only [RepL] at h; subst h; exact g
  | w :: ws, _, _, _, h, g => by
    simp only [RepL] at h; obtain ⟨d, r, rfl, h1, h2⟩ := h
    rw [List.cons_append, List.cons_append]
    simp only [RepL]
    exact ⟨d, _, rfl, h1, repL_app h2 g⟩
theorem repL_one {w : W} {d : D} (h : Rep Z w d) : RepL Z [w] [d] := by simp only [RepL]; exact ⟨d, [], rfl, h, rfl⟩
theorem repL_cons {w : W} {d : D} {ws : List W} {ds : List D} (h : Rep Z w d) (g : RepL Z ws ds) : RepL Z (w :: ws) (d :: ds) := by simp only [RepL]; exact ⟨d, ds, rfl, h, g⟩
theorem repL_rev : ∀ {ws : List W} {ds : List D}, RepL Z ws ds → RepL Z ws.reverse ds.reverse
  | [], _, h => by simp only [RepL] at h; subst h; simp [RepL]
  | w :: ws, _, h => by
    simp only [RepL] at h; obtain ⟨d, r, rfl, h1, h2⟩ := h
    rw [List.reverse_cons, List.reverse_cons]
    exact repL_app (repL_rev h2) (repL_one h1)
theorem repL_take : ∀ (n : Nat) {ws : List W} {ds : List D}, RepL Z ws ds → RepL Z (ws.take n) (ds.take n)
  | 0, _, _, _ => by simp only [List.take_zero, RepL]
  | n + 1, [], _, h => by simp only [RepL] at h; subst h; simp only [List.take_nil, RepL]
  | n + 1, w :: ws, _, h => by
    simp only [RepL] at h; obtain ⟨d, r, rfl, h1, h2⟩ := h
    simp only [List.take_succ_cons, RepL]
    exact ⟨d, _, rfl, h1, repL_take n h2⟩
theorem repL_drop : ∀ (n : Nat) {ws : List W} {ds : List D}, RepL Z ws ds → RepL Z (ws.drop n) (ds.drop n)
  | 0, _, _, h => h
  | n + 1, [], _, h => by simp only [RepL] at h; subst h; simp only [List.drop_nil, RepL]
  | n + 1, w :: ws, _, h => by
    simp only [RepL] at h; obtain ⟨d, r, rfl, h1, h2⟩ := h
    exact repL_drop n h2
theorem repL_set {w : W} {d : D} (g : Rep Z w d) : ∀ (i : Nat) {ws : List W} {ds : List D}, RepL Z ws ds → RepL Z (ws.set i w) (ds.set i d)
  | _, [], _, h => by simp only [RepL] at h; subst h; simp only [List.set_nil, RepL]
  | 0, u :: ws, _, h => by
    simp only [RepL] at h; obtain ⟨e, r, rfl, h1, h2⟩ := h
    simp only [List.set_cons_zero, RepL]
    exact ⟨d, r, rfl, g, h2⟩
  | i + 1, u :: ws, _, h => by
    simp only [RepL] at h; obtain ⟨e, r, rfl, h1, h2⟩ := h
    simp only [List.set_cons_succ, RepL]
    exact ⟨e, _, rfl, h1, repL_set g i h2⟩
theorem repL_map {α : Type} {f : α → W} {g : α → D} (h : ∀ a, Rep Z (f a) (g a)) : ∀ xs : List α, RepL Z (xs.map f) (xs.map g)
  | [] => by simp only [List.map_nil, RepL]
  | x :: xs => by simp only [List.map_cons, RepL]; exact ⟨_, _, rfl, h x, repL_map h xs⟩
/-! ### dicts -/
theorem repK_len : ∀ {ws : List (Key × W)} {ds : List (Key × D)}, RepK2 Z ws ds → ds.length = ws.length
  | [], _, h => by rw [show _ = [] from h]; rfl
  | (k, w) :: ws, _, h => by obtain ⟨d, r, rfl, _, q⟩ := h; rw [List.length_cons, List.length_cons, repK_len q]
theorem repK_keys : ∀ {ws : List (Key × W)} {ds : List (Key × D)}, RepK2 Z ws ds → ds.map (·.1) = ws.map (·.1)
  | [], _, h => by rw [show _ = [] from h]; rfl
  | (k, w) :: ws, _, h => by obtain ⟨d, r, rfl, _, q⟩ := h; rw [List.map_cons, List.map_cons, repK_keys q]
theorem repK_app : ∀ {ws : List (Key × W)} {ds : List (Key × D)} {us : List (Key × W)} {es : List (Key × D)}, RepK2 Z ws ds → RepK2 Z us es → RepK2 Z (ws ++ us) (ds ++ es)
  | [], _, _, _, h, g => by rw [show _ = [] from h]; exact g
  | (k, w) :: ws, _, _, _, h, g => by
    obtain ⟨d, r, rfl, h1, h2⟩ := h
    exact ⟨d, _, rfl, h1, repK_app h2 g⟩
theorem repK_get (k : Key) : ∀ {ws : List (Key × W)} {ds : List (Key × D)}, RepK2 Z ws ds → match dget ws k with
    | some w => ∃ d, dget ds k = some d ∧ Rep Z w d
    | none => dget ds k = none
  | [], _, h => by rw [show _ = [] from h]; rfl
  | (k', w) :: ws, _, h => by
    obtain ⟨d, r, rfl, h1, h2⟩ := h
    have ih := repK_get k h2
    unfold dget at ih ⊢
    by_cases e : k' = k
    · simp only [List.find?_cons, e, decide_true, Option.map_some]
      exact ⟨d, rfl, h1⟩
    · simp only [List.find?_cons, e, decide_false]
      exact ih
theorem repK_put (k : Key) {w : W} {d : D} (g : Rep Z w d) {ws : List (Key × W)} {ds : List (Key × D)} (h : RepK2 Z ws ds) : RepK2 Z (dput ws k w) (dput ds k d) := by
  have e : (ws.any fun kv => decide (kv.1 = k)) = (ds.any fun kv => decide (kv.1 = k)) := by
    have := repK_keys h
    have a : (ws.any fun kv => decide (kv.1 = k)) = ((ws.map (·.1)).any fun x => decide (x = k)) := by rw [List.any_map]; rfl
    have b : (ds.any fun kv => decide (kv.1 = k)) = ((ds.map (·.1)).any fun x => decide (x = k)) := by rw [List.any_map]; rfl
    rw [a, b, this]
  have go : ∀ {ws : List (Key × W)} {ds : List (Key × D)}, RepK2 Z ws ds → RepK2 Z (ws.map fun kv => if kv.1 = k then (kv.1, w) else kv) (ds.map fun kv => if kv.1 = k then (kv.1, d) else kv) := by
    intro ws
    induction ws with
    | nil => intro ds h; rw [show ds = [] from h]; rfl
    | cons p ws ih =>
      intro ds h
      obtain ⟨k', w'⟩ := p
      obtain ⟨d', r, rfl, h1, h2⟩ := h
      simp only [List.map_cons]
      have := ih h2
      split
      · exact ⟨d, _, rfl, g, this⟩
      · exact ⟨d', _, rfl, h1, this⟩
  unfold dput
  rw [← e]
  split
  · exact go h
  · exact repK_app h ⟨d, [], rfl, g, rfl⟩
theorem repK_drop (k : Key) : ∀ {ws : List (Key × W)} {ds : List (Key × D)}, RepK2 Z ws ds → RepK2 Z (ddrop ws k) (ddrop ds k)
  | [], _, h => by rw [show _ = [] from h]; rfl
  | (k', w) :: ws, _, h => by
    obtain ⟨d, r, rfl, h1, h2⟩ := h
    have ih := repK_drop k h2
    unfold ddrop at ih ⊢
    by_cases e : k' = k
    · simp only [List.filter_cons, e, ne_eq, not_true_eq_false, decide_false]; exact ih
    · simp only [List.filter_cons, e, ne_eq, not_false_eq_true, decide_true, if_true]; exact ⟨d, _, rfl, h1, ih⟩
theorem repK_merge : ∀ {us : List (Key × W)} {es : List (Key × D)} {ws : List (Key × W)} {ds : List (Key × D)}, RepK2 Z us es → RepK2 Z ws ds → RepK2 Z (mergeW ws us) (mergeD ds es)
  | [], _, _, _, h, g => by rw [show _ = [] from h]; exact g
  | (k, w) :: us, es, ws, ds, h, g => by
    obtain ⟨d, r, rfl, h1, h2⟩ := h
    exact repK_merge (us := us) (es := r) (ws := dput ws k w) (ds := dput ds k d) h2 (repK_put k h1 g)
theorem key_rep {w : W} {d : D} {k : Key} (h : Rep Z w d) (e : keyW w = some k) : keyD d = some k := by
  cases w <;> simp only [keyW] at e <;> (try cases e) <;> (simp only [Rep] at h; subst h; rfl)
theorem wkey_rep (k : Key) : Rep Z (wkey k) (dkey k) := by cases k <;> (simp only [wkey, dkey, Rep])
theorem pairs_rep : ∀ {ws : List W} {ds : List D} {ps : List (Key × W)}, RepL Z ws ds → pairsW ws = some ps → ∃ qs, pairsD ds = some qs ∧ RepK2 Z ps qs
  | [], _, _, h, e => by simp only [RepL] at h; subst h; simp only [pairsW, Option.some.injEq] at e; subst e; exact ⟨[], rfl, rfl⟩
  | w :: ws, _, ps, h, e => by
    simp only [RepL] at h; obtain ⟨d, r, rfl, h1, h2⟩ := h
    unfold pairsW at e
    split at e
    · rename_i z; cases z
    · rename_i k v r' z
      cases z
      split at e
      · rename_i k' ps' e1 e2
        cases e
        obtain ⟨qs, q1, q2⟩ := pairs_rep h2 e2
        simp only [Rep, RepL] at h1
        obtain ⟨_, rfl, dk, _, rfl, g1, dv, _, rfl, g2, rfl⟩ := h1
        refine ⟨(k', dv) :: qs, ?_, dv, qs, rfl, g2, q2⟩
        unfold pairsD
        rw [key_rep g1 e1, q1]
      · cases e
    · cases e
/-! ### views -/
theorem Rep.vw (f : FzOk Z S) {w : W} {d : D} (h : Rep Z w d) : Vw Z S w d := .inl h
theorem Frs.vw {n : Nat} {w : W} {d : D} (h : Frs n Z S w d) : Vw Z S w d := by
  rcases h with ⟨_, h⟩ | ⟨j, c, e, _, _, h1, h2⟩
  · exact .inl h
  · exact .inr ⟨j, c, e, h1, h2⟩
theorem vw_atom {w : W} {d : D} (a : atomW w = true) (h : Vw Z S w d) : Rep Z w d := by
  rcases h with h | ⟨j, c, rfl, _, h⟩
  · exact h
  · cases w <;> first | (cases a; done) | exact h.elim
theorem repC_dic {kvs : List (Key × W)} {c : Cell} (h : RepC Z (.dic kvs) c) : ∃ ks, c = .dic false ks ∧ RepK2 Z kvs ks := by
  cases c with
  | lst ds => exact h.elim
  | dic b ks => cases b <;> first | exact ⟨ks, rfl, h⟩ | exact h.elim
  | ins _ _ => exact h.elim
theorem repC_lst {ws : List W} {c : Cell} (h : RepC Z (.lst ws) c) : ∃ ds, c = .lst ds ∧ RepL Z ws ds := by
  cases c with
  | lst ds => exact ⟨ds, rfl, h⟩
  | dic b ks => cases b <;> exact h.elim
  | ins _ _ => exact h.elim
theorem vw_lst (f : FzOk Z S) {ws : List W} {d : D} (h : Vw Z S (.lst ws) d) : ∃ j ds, d = .ref j ∧ S[j]? = some (.lst ds) ∧ RepL Z ws ds := by
  rcases h with h | ⟨j, c, rfl, h1, h2⟩
  · simp only [Rep] at h
    obtain ⟨j, rfl, h⟩ := h
    obtain ⟨c, h1, h2⟩ := f _ _ h
    obtain ⟨ks, rfl, g⟩ := repC_lst h2
    exact ⟨j, ks, rfl, h1, g⟩
  · obtain ⟨ks, rfl, g⟩ := repC_lst h2
    exact ⟨j, ks, rfl, h1, g⟩
theorem vw_fzl {ws : List W} {d : D} (h : Vw Z S (.fzl ws) d) : ∃ ds, d = .fzl ds ∧ RepL Z ws ds := by
  have := vw_atom rfl h
  simpa only [Rep] using this
theorem vw_dic (f : FzOk Z S) {kvs : List (Key × W)} {d : D} (h : Vw Z S (.dic kvs) d) : ∃ j ks, d = .ref j ∧ S[j]? = some (.dic false ks) ∧ RepK2 Z kvs ks := by
  rcases h with h | ⟨j, c, rfl, h1, h2⟩
  · simp only [Rep] at h
    obtain ⟨j, rfl, h⟩ := h
    obtain ⟨c, h1, h2⟩ := f _ _ h
    obtain ⟨ks, rfl, g⟩ := repC_dic h2
    exact ⟨j, ks, rfl, h1, g⟩
  · obtain ⟨ks, rfl, g⟩ := repC_dic h2
    exact ⟨j, ks, rfl, h1, g⟩
theorem vw_tup {ws : List W} {d : D} (h : Vw Z S (.tup ws) d) : ∃ ds, d = .tup ds ∧ RepL Z ws ds := by
  have := vw_atom rfl h
  simpa only [Rep] using this
theorem vw_int {i : Int} {d : D} (h : Vw Z S (.int i) d) : d = .int i := by have := vw_atom rfl h; simpa only [Rep] using this
theorem vw_bl {i : Bool} {d : D} (h : Vw Z S (.bl i) d) : d = .bl i := by have := vw_atom rfl h; simpa only [Rep] using this
theorem vw_str {i : Str} {d : D} (h : Vw Z S (.str i) d) : d = .str i := by have := vw_atom rfl h; simpa only [Rep] using this
theorem vw_non {d : D} (h : Vw Z S .non d) : d = .non := by have := vw_atom rfl h; simpa only [Rep] using this
/-! ### trees -/
mutual
theorem pd_vw (f : FzOk Z S) : ∀ (n : Nat) (w : W) (d : D) (p : PyData), pdW n w = some p → Vw Z S w d → pd S n d = some p
  | 0, _, _, _, h, _ => by simp [pdW] at h
  | n + 1, .non, d, p, h, q => by rw [vw_non q]; simpa only [pdW, pd] using h
  | n + 1, .bl b, d, p, h, q => by rw [vw_bl q]; simpa only [pdW, pd] using h
  | n + 1, .int b, d, p, h, q => by rw [vw_int q]; simpa only [pdW, pd] using h
  | n + 1, .str b, d, p, h, q => by rw [vw_str q]; simpa only [pdW, pd] using h
  | n + 1, .tup ws, d, p, h, q => by
    obtain ⟨ds, rfl, q'⟩ := vw_tup q
    simp only [pdW, Option.map_eq_some_iff] at h
    obtain ⟨ps, h, rfl⟩ := h
    simp only [pd, pds_vw f n ws ds ps h q', Option.map_some]
  | n + 1, .lst ws, d, p, h, q => by
    simp only [pdW, Option.map_eq_some_iff] at h
    obtain ⟨ps, h, rfl⟩ := h
    obtain ⟨j, ds, rfl, e, q⟩ := vw_lst f q
    simp only [pd, e, pds_vw f n ws ds ps h q, Option.map_some]
  | n + 1, .fzl ws, d, p, h, q => by
    obtain ⟨ds, rfl, q'⟩ := vw_fzl q
    simp only [pdW, Option.map_eq_some_iff] at h
    obtain ⟨ps, h, rfl⟩ := h
    simp only [pd, pds_vw f n ws ds ps h q', Option.map_some]
  | n + 1, .dic _, _, _, h, _ => by simp [pdW] at h
theorem pds_vw (f : FzOk Z S) : ∀ (n : Nat) (ws : List W) (ds : List D) (ps : List PyData), ws.mapM (pdW n) = some ps → RepL Z ws ds → ds.mapM (pd S n) = some ps
  | n, [], ds, ps, h, q => by simp only [RepL] at q; subst q; simpa using h
  | n, w :: ws, ds, ps, h, q => by
    simp only [RepL] at q
    obtain ⟨d, r, rfl, q1, q2⟩ := q
    rw [List.mapM_cons] at h ⊢
    cases e1 : pdW n w with
    | none => rw [e1] at h; cases h
    | some p =>
      cases e2 : ws.mapM (pdW n) with
      | none => rw [e1, e2] at h; cases h
      | some qs =>
        rw [e1, e2] at h
        rw [pd_vw f n w d p e1 (.inl q1), pds_vw f n ws r qs e2 q2]
        exact h
end
theorem eq_vw (f : FzOk Z S) {x y : W} {dx dy : D} {b : Bool} (e : eqW x y = some b) (hx : Vw Z S x dx) (hy : Vw Z S y dy) : eqD S dx dy = some b := by
  unfold eqW at e
  unfold eqD
  cases e1 : pdW 60 x with
  | none => rw [e1] at e; cases e
  | some p =>
    cases e2 : pdW 60 y with
    | none => rw [e1, e2] at e; cases e
    | some q =>
      rw [e1, e2] at e
      rw [pd_vw f _ _ _ _ e1 hx, pd_vw f _ _ _ _ e2 hy]
      exact e
theorem key_vw {x : W} {d : D} {k : Key} (e : keyW x = some k) (h : Vw Z S x d) : keyD d = some k := by
  refine key_rep (vw_atom ?_ h) e
  cases x <;> first | rfl | cases e
theorem in_vw (f : FzOk Z S) {x y : W} {dx dy : D} {b : Bool} (e : inW x y = some b) (hx : Vw Z S x dx) (hy : Vw Z S y dy) : inD S dx dy = some b := by
  unfold inW at e
  split at e
  · rw [vw_str hy]
    split at e
    · rw [vw_str hx]; exact e
    · cases e
  · rename_i ds
    cases e1 : pdW 60 x with
    | none => rw [e1] at e; cases e
    | some p =>
      cases e2 : ds.mapM (pdW 59) with
      | none => rw [e1, e2] at e; cases e
      | some q =>
        rw [e1, e2] at e
        obtain ⟨j, es, rfl, g1, g⟩ := vw_lst f hy
        simp only [inD, g1, pd_vw f _ _ _ _ e1 hx, pds_vw f _ _ _ _ e2 g]; exact e
  · obtain ⟨j, ks, rfl, g1, g⟩ := vw_dic f hy
    split at e
    · rename_i kvs _ k e1
      cases e
      simp only [inD, g1, key_vw e1 hx, Option.some.injEq]
      have := repK_get k g
      cases q : dget kvs k with
      | none => rw [q] at this; rw [show dget ks k = none from this]; rfl
      | some v => rw [q] at this; obtain ⟨d, h1, _⟩ := this; rw [h1]; rfl
    · cases e
  · rename_i ds
    obtain ⟨es, rfl, g⟩ := vw_tup hy
    cases e1 : pdW 60 x with
    | none => rw [e1] at e; cases e
    | some p =>
      cases e2 : ds.mapM (pdW 59) with
      | none => rw [e1, e2] at e; cases e
      | some q =>
        rw [e1, e2] at e
        simp only [inD, pd_vw f _ _ _ _ e1 hx, pds_vw f _ _ _ _ e2 g]; exact e
  · cases e
end
end Pq
set_option Elab.async false
set_option linter.all false
set_option maxRecDepth 100000
set_option maxHeartbeats 1000000
/-! operators over values are those over the store -/
namespace Pq
open PySem PySem.Spec PyProof.Rows L2 Pv
section
variable {Z : Fz} {S : Store}
theorem NewR.atom {w : W} {d : D} {r : R D} (e : r = .ok d S) (a : atomW w = true) (h : Rep Z w d) : NewR Z S w r := .inl ⟨d, e, a, h⟩
theorem NewR.cell {w : W} {c : Cell} {r : R D} (e : r = alloc c S) (h : RepC Z w c) : NewR Z S w r := .inr ⟨c, e, h⟩
theorem binop_vw (f : FzOk Z S) {op : Operator} {x y w : W} {dx dy : D} (e : binopW op x y = some w) (hx : Vw Z S x dx) (hy : Vw Z S y dy) : NewR Z S w (binop op dx dy S) := by
  unfold binopW at e
  split at e
  · cases e; rw [vw_int hx, vw_int hy]; exact .atom rfl rfl (by simp only [Rep])
  · split at e
    · cases e; rw [vw_str hx, vw_str hy]; rename_i h; exact .atom (by simp only [binop, if_pos h] <;> rfl) rfl (by simp only [Rep])
    · cases e
  · split at e
    · cases e
      rename_i h
      obtain ⟨a, rfl, qa⟩ := vw_tup hx
      obtain ⟨b, rfl, qb⟩ := vw_tup hy
      rw [← repL_len qa, ← repL_len qb] at h
      exact .atom (by simp only [binop, if_pos h] <;> rfl) rfl (by simp only [Rep]; exact ⟨_, rfl, repL_app qa qb⟩)
    · cases e
  · split at e
    · cases e
      rename_i h
      obtain ⟨i, a, rfl, ea, qa⟩ := vw_lst f hx
      obtain ⟨j, b, rfl, eb, qb⟩ := vw_lst f hy
      rw [← repL_len qa, ← repL_len qb] at h
      exact .cell (c := .lst (a ++ b)) (by simp only [binop, ea, eb, if_pos h]) (repL_app qa qb)
    · cases e
  · cases e; rw [vw_int hx, vw_int hy]; exact .atom rfl rfl (by simp only [Rep])
  · split at e
    · cases e; rw [vw_int hx, vw_int hy]; rename_i h; exact .atom (by simp only [binop, if_pos h] <;> rfl) rfl (by simp only [Rep])
    · cases e
  · split at e
    · cases e; rw [vw_str hx, vw_int hy]; rename_i h; exact .atom (by simp only [binop, if_pos h] <;> rfl) rfl (by simp only [Rep])
    · cases e
  · split at e
    · cases e; rw [vw_int hx, vw_int hy]; rename_i h; exact .atom (by simp only [binop, if_pos h] <;> rfl) rfl (by simp only [Rep])
    · cases e
  · split at e
    · cases e; rw [vw_int hx, vw_int hy]; rename_i h; exact .atom (by simp only [binop, if_pos h] <;> rfl) rfl (by simp only [Rep])
    · cases e
  · split at e
    · cases e; rw [vw_int hx, vw_int hy]; rename_i h; exact .atom (by simp only [binop, if_pos h] <;> rfl) rfl (by simp only [Rep])
    · cases e
  · cases e
theorem lt_vw {x y : W} {dx dy : D} {b : Bool} (e : ltW x y = some b) (hx : Vw Z S x dx) (hy : Vw Z S y dy) : ltD dx dy = some b := by
  unfold ltW at e
  split at e
  · rw [vw_int hx, vw_int hy]; exact e
  · rw [vw_str hx, vw_str hy]; exact e
  · cases e
theorem isNon_vw {x : W} {dx : D} (hx : Vw Z S x dx) : isNon dx = isNonW x := by
  cases x with
  | non => rw [vw_non hx]; rfl
  | bl b => rw [vw_bl hx]; rfl
  | int b => rw [vw_int hx]; rfl
  | str b => rw [vw_str hx]; rfl
  | tup b => obtain ⟨ds, rfl, _⟩ := vw_tup hx; rfl
  | fzl b => obtain ⟨ds, rfl, _⟩ := vw_fzl hx; rfl
  | lst b =>
    rcases hx with h | ⟨j, c, rfl, _, h⟩
    · simp only [Rep] at h; obtain ⟨j, rfl, _⟩ := h; rfl
    · rfl
  | dic b =>
    rcases hx with h | ⟨j, c, rfl, _, h⟩
    · simp only [Rep] at h; obtain ⟨j, rfl, _⟩ := h; rfl
    · rfl
theorem cmpop_vw (f : FzOk Z S) {op : CmpOp} {x y : W} {dx dy : D} {b : Bool} (e : cmpopW op x y = some b) (hx : Vw Z S x dx) (hy : Vw Z S y dy) : cmpop op dx dy S = .ok (.bl b) S := by
  have rb : ∀ {o : Option Bool}, o = some b → retB o S = .ok (.bl b) S := fun h => by rw [h]; rfl
  have nt : ∀ {o o' : Option Bool}, (o.map fun b => !b) = some b → (∀ c, o = some c → o' = some c) → (o'.map fun b => !b) = some b := fun {o o'} h g => by
    cases o with
    | none => cases h
    | some c => rw [g c rfl]; exact h
  cases op with
  | Eq => exact rb (eq_vw f e hx hy)
  | NotEq => exact rb (nt e fun c h => eq_vw f h hx hy)
  | Lt => exact rb (lt_vw e hx hy)
  | Gt => exact rb (lt_vw e hy hx)
  | LtE => exact rb (nt e fun c h => lt_vw h hy hx)
  | GtE => exact rb (nt e fun c h => lt_vw h hx hy)
  | Is =>
    simp only [cmpopW] at e
    split at e
    · rw [vw_non hy]
      simp only [cmpop, isNon_vw hx]
      cases e; rfl
    · cases e
  | IsNot =>
    simp only [cmpopW] at e
    split at e
    · rw [vw_non hy]
      simp only [cmpop, isNon_vw hx]
      cases e; rfl
    · cases e
  | In => exact rb (in_vw f e hx hy)
  | NotIn => exact rb (nt e fun c h => in_vw f h hx hy)
theorem atI_rep {ws : List W} {ds : List D} {k : Int} {w : W} (h : RepL Z ws ds) (e : atI ws k = some w) : ∃ d, atI ds k = some d ∧ Rep Z w d := by
  have hl := repL_len h
  unfold atI at e ⊢
  rw [hl]
  rw [Option.bind_eq_some_iff] at e
  obtain ⟨i, hi, e⟩ := e
  rw [hi]
  exact repL_get h e
theorem sub_vw (f : FzOk Z S) {x i w : W} {dx di : D} (e : subW x i = some w) (hx : Vw Z S x dx) (hi : Vw Z S i di) : ∃ d, subD dx di S = .ok d S ∧ Rep Z w d := by
  unfold subW at e
  split at e
  · obtain ⟨ds, rfl, q⟩ := vw_tup hx
    rw [vw_int hi]
    obtain ⟨d, h1, h2⟩ := atI_rep q e
    exact ⟨d, by simp only [subD, h1], h2⟩
  · obtain ⟨ds, rfl, q⟩ := vw_fzl hx
    rw [vw_int hi]
    obtain ⟨d, h1, h2⟩ := atI_rep q e
    exact ⟨d, by simp only [subD, h1], h2⟩
  · obtain ⟨j, ds, rfl, e1, q⟩ := vw_lst f hx
    rw [vw_int hi]
    obtain ⟨d, h1, h2⟩ := atI_rep q e
    exact ⟨d, by simp only [subD, e1, h1], h2⟩
  · rw [vw_str hx, vw_int hi]
    split at e
    · rename_i h
      rw [Option.map_eq_some_iff] at e
      obtain ⟨c, e, rfl⟩ := e
      exact ⟨sign c, by simp only [subD, if_pos h, e], by simp only [wsign, sign, Rep]⟩
    · cases e
  · obtain ⟨j, ks, rfl, e1, q⟩ := vw_dic f hx
    rw [Option.bind_eq_some_iff] at e
    obtain ⟨k, ek, e⟩ := e
    have := repK_get k q
    rw [e] at this
    obtain ⟨d, h1, h2⟩ := this
    exact ⟨d, by simp only [subD, e1, key_vw ek hi, h1], h2⟩
  · cases e
theorem repL_cut {ws : List W} {ds : List D} (h : RepL Z ws ds) (lo hi : Option Int) : RepL Z (Pv.cutD ws lo hi) (Pv.cutD ds lo hi) := by
  unfold Pv.cutD
  rw [repL_len h]
  exact repL_take _ (repL_drop _ h)
theorem slc_vw (f : FzOk Z S) {x w : W} {lo hi : Option Int} {dx : D} (e : slcW x lo hi = some w) (hx : Vw Z S x dx) : NewR Z S w (slcD dx lo hi S) := by
  unfold slcW at e
  split at e
  · cases e
    obtain ⟨ds, rfl, q⟩ := vw_tup hx
    exact .atom rfl rfl (by simp only [Rep]; exact ⟨_, rfl, repL_cut q lo hi⟩)
  · cases e
    obtain ⟨ds, rfl, q⟩ := vw_fzl hx
    exact .cell (c := .lst _) rfl (repL_cut q lo hi)
  · cases e
    obtain ⟨j, ds, rfl, e1, q⟩ := vw_lst f hx
    exact .cell (c := .lst _) (by simp only [slcD, e1] <;> rfl) (repL_cut q lo hi)
  · split at e
    · rename_i h
      cases e; rw [vw_str hx]
      exact .atom (by simp only [slcD, if_pos h] <;> rfl) rfl (by simp only [Rep])
    · cases e
  · cases e
theorem rv_vw (f : FzOk Z S) {x w : W} {dx : D} (e : rvW x = some w) (hx : Vw Z S x dx) : NewR Z S w (rvD dx S) := by
  unfold rvW at e
  split at e
  · cases e
    obtain ⟨ds, rfl, q⟩ := vw_tup hx
    exact .atom rfl rfl (by simp only [Rep]; exact ⟨_, rfl, repL_rev q⟩)
  · cases e
    obtain ⟨ds, rfl, q⟩ := vw_fzl hx
    exact .cell (c := .lst _) rfl (repL_rev q)
  · cases e
    obtain ⟨j, ds, rfl, e1, q⟩ := vw_lst f hx
    exact .cell (c := .lst _) (by simp only [rvD, e1] <;> rfl) (repL_rev q)
  · cases e
theorem isi_vw (f : FzOk Z S) {x : W} {dx : D} (t : Ty) (hx : Vw Z S x dx) : isiD dx t S = some (isiW x t) := by
  cases x with
  | non => rw [vw_non hx]; rfl
  | bl b => rw [vw_bl hx]; rfl
  | int b => rw [vw_int hx]; rfl
  | str b => rw [vw_str hx]; rfl
  | tup b => obtain ⟨ds, rfl, _⟩ := vw_tup hx; rfl
  | fzl b => obtain ⟨ds, rfl, _⟩ := vw_fzl hx; rfl
  | lst b => obtain ⟨j, ds, rfl, e, _⟩ := vw_lst f hx; simp only [isiD, e, isiW] <;> (cases t <;> rfl)
  | dic b => obtain ⟨j, ds, rfl, e, _⟩ := vw_dic f hx; simp only [isiD, e, isiW] <;> (cases t <;> rfl)
/-! ### built-ins -/
theorem ints_rep : ∀ {ws : List W} {ds : List D} {is : List Int}, RepL Z ws ds → intsW ws = some is → intsD ds = some is
  | [], _, _, h, e => by simp only [RepL] at h; subst h; exact e
  | w :: ws, _, is, h, e => by
    simp only [RepL] at h; obtain ⟨d, r, rfl, h1, h2⟩ := h
    cases w <;> simp only [intsW] at e <;> (try cases e; done)
    rename_i i
    rw [Option.map_eq_some_iff] at e
    obtain ⟨js, e, rfl⟩ := e
    simp only [Rep] at h1
    subst h1
    simp only [intsD, ints_rep h2 e, Option.map_some]
theorem bls_rep : ∀ {ws : List W} {ds : List D} {is : List Bool}, RepL Z ws ds → blsW ws = some is → blsD ds = some is
  | [], _, _, h, e => by simp only [RepL] at h; subst h; exact e
  | w :: ws, _, is, h, e => by
    simp only [RepL] at h; obtain ⟨d, r, rfl, h1, h2⟩ := h
    cases w <;> simp only [blsW] at e <;> (try cases e; done)
    rename_i i
    rw [Option.map_eq_some_iff] at e
    obtain ⟨js, e, rfl⟩ := e
    simp only [Rep] at h1
    subst h1
    simp only [blsD, bls_rep h2 e, Option.map_some]
theorem strs_rep : ∀ {ws : List W} {ds : List D} {is : List Str}, RepL Z ws ds → strsW ws = some is → strsD ds = some is
  | [], _, _, h, e => by simp only [RepL] at h; subst h; exact e
  | w :: ws, _, is, h, e => by
    simp only [RepL] at h; obtain ⟨d, r, rfl, h1, h2⟩ := h
    cases w <;> simp only [strsW] at e <;> (try cases e; done)
    rename_i i
    rw [Option.map_eq_some_iff] at e
    obtain ⟨js, e, rfl⟩ := e
    simp only [Rep] at h1
    subst h1
    simp only [strsD, strs_rep h2 e, Option.map_some]
theorem strs_rep_no : ∀ {ws : List W} {ds : List D}, RepL Z ws ds → strsW ws = none → strsD ds = none
  | [], _, h, e => by cases e
  | w :: ws, _, h, e => by
    simp only [RepL] at h; obtain ⟨d, r, rfl, h1, h2⟩ := h
    cases w <;> simp only [Rep] at h1
    case str s =>
      subst h1
      simp only [strsW, Option.map_eq_none_iff] at e
      simp only [strsD, strs_rep_no h2 e, Option.map_none]
    all_goals (try (obtain ⟨_, rfl, _⟩ := h1)) <;> (try subst h1) <;> rfl
theorem sort_rep {ws us : List W} {ds : List D} (h : RepL Z ws ds) (e : sortW ws = some us) : ∃ es, sortD ds = some es ∧ RepL Z us es := by
  unfold sortW at e
  unfold sortD
  cases e1 : strsW ws with
  | some ss =>
    rw [e1] at e
    cases e
    rw [strs_rep h e1]
    exact ⟨_, rfl, repL_map (fun a => by simp only [Rep]) _⟩
  | none =>
    rw [e1] at e
    rw [strs_rep_no h e1]
    cases e2 : intsW ws with
    | none => rw [e2] at e; cases e
    | some is =>
      rw [e2] at e
      cases e
      simp only [ints_rep h e2]
      exact ⟨_, rfl, repL_map (fun a => by simp only [Rep]) _⟩
theorem repL_keys {kvs : List (Key × W)} {ks : List (Key × D)} (h : RepK2 Z kvs ks) : RepL Z (kvs.map fun p => wkey p.1) (ks.map fun p => dkey p.1) := by
  have e := repK_keys h
  have a : (kvs.map fun p => wkey p.1) = (kvs.map (·.1)).map wkey := by rw [List.map_map]; rfl
  have b : (ks.map fun p => dkey p.1) = (ks.map (·.1)).map dkey := by rw [List.map_map]; rfl
  rw [a, b, e]
  exact repL_map wkey_rep _
theorem seq_vw (f : FzOk Z S) {x : W} {dx : D} {ws : List W} (e : seqW x = some ws) (hx : Vw Z S x dx) : ∃ ds, seqD dx S = some ds ∧ RepL Z ws ds := by
  unfold seqW at e
  split at e
  · cases e; obtain ⟨ds, rfl, q⟩ := vw_tup hx; exact ⟨ds, rfl, q⟩
  · cases e; obtain ⟨ds, rfl, q⟩ := vw_fzl hx; exact ⟨ds, rfl, q⟩
  · cases e; obtain ⟨j, ds, rfl, e1, q⟩ := vw_lst f hx; exact ⟨ds, by simp only [seqD, e1], q⟩
  · cases e; obtain ⟨j, ds, rfl, e1, q⟩ := vw_dic f hx; exact ⟨_, by simp only [seqD, e1], repL_keys q⟩
  · cases e
inductive VwL (Z : Fz) (S : Store) : List W → List D → Prop where
  | nil : VwL Z S [] []
  | cons {w : W} {d : D} {ws : List W} {ds : List D} : Vw Z S w d → VwL Z S ws ds → VwL Z S (w :: ws) (d :: ds)
theorem RepL.vw : ∀ {ws : List W} {ds : List D}, RepL Z ws ds → VwL Z S ws ds
  | [], _, h => by simp only [RepL] at h; subst h; exact .nil
  | w :: ws, _, h => by simp only [RepL] at h; obtain ⟨d, r, rfl, h1, h2⟩ := h; exact .cons (.inl h1) (RepL.vw h2)
theorem vwl_1 {w : W} {ds : List D} (h : VwL Z S [w] ds) : ∃ d, ds = [d] ∧ Vw Z S w d := by
  cases h with
  | cons h g => cases g; exact ⟨_, rfl, h⟩
theorem vwl_2 {w u : W} {ds : List D} (h : VwL Z S [w, u] ds) : ∃ d e, ds = [d, e] ∧ Vw Z S w d ∧ Vw Z S u e := by
  cases h with
  | cons h g => obtain ⟨e, rfl, g2⟩ := vwl_1 g; exact ⟨_, _, rfl, h, g2⟩
theorem seqD_len {dx : D} {n : Int} {xs : List D} (h : seqD dx S = some xs) : bi .len [dx] S = .ok (.int xs.length) S := by
  cases dx <;> simp only [seqD] at h <;> (try cases h; done) <;> simp only [Pv.bi, seqD]
  · cases h; rfl
  · cases h; rfl
  · simp only [h]
theorem seqD_list {dx : D} {xs : List D} (h : seqD dx S = some xs) : bi .list [dx] S = alloc (.lst xs) S := by
  cases dx <;> simp only [seqD] at h <;> (try cases h; done) <;> simp only [Pv.bi, seqD]
  · cases h; rfl
  · cases h; rfl
  · simp only [h]
theorem bi_vw (f : FzOk Z S) {b : B} {ws : List W} {w : W} {ds : List D} (e : biW b ws = some w) (h : VwL Z S ws ds) : NewR Z S w (bi b ds S) := by
  unfold biW at e
  split at e
  · obtain ⟨d, rfl, hx⟩ := vwl_1 h
    rw [vw_str hx]
    split at e
    · rename_i hl; cases e; exact .atom (by simp only [Pv.bi, if_pos hl] <;> rfl) rfl (by simp only [Rep])
    · cases e
  · obtain ⟨d, rfl, hx⟩ := vwl_1 h
    rw [Option.map_eq_some_iff] at e
    obtain ⟨xs, e, rfl⟩ := e
    obtain ⟨es, e1, q⟩ := seq_vw f e hx
    exact .atom (seqD_len (n := 0) e1) rfl (by simp only [Rep]; rw [repL_len q])
  · obtain ⟨d, rfl, hx⟩ := vwl_1 h
    rw [vw_int hx]; cases e
    exact .atom rfl rfl (by simp only [Rep])
  · obtain ⟨d, rfl, hx⟩ := vwl_1 h
    obtain ⟨j, es, rfl, e1, q⟩ := vw_lst f hx
    rw [Option.map_eq_some_iff] at e
    obtain ⟨bs, e, rfl⟩ := e
    exact .atom (by simp only [Pv.bi, e1, bls_rep q e] <;> rfl) rfl (by simp only [Rep])
  · obtain ⟨d, rfl, hx⟩ := vwl_1 h
    obtain ⟨j, es, rfl, e1, q⟩ := vw_lst f hx
    rw [Option.map_eq_some_iff] at e
    obtain ⟨bs, e, rfl⟩ := e
    exact .atom (by simp only [Pv.bi, e1, ints_rep q e] <;> rfl) rfl (by simp only [Rep])
  · obtain ⟨d1, d2, rfl, hx, hy⟩ := vwl_2 h
    rw [vw_int hx, vw_int hy]; cases e
    exact .atom rfl rfl (by simp only [Rep])
  · obtain ⟨d1, d2, rfl, hx, hy⟩ := vwl_2 h
    rw [vw_int hx, vw_int hy]; cases e
    exact .atom rfl rfl (by simp only [Rep])
  · obtain ⟨d, rfl, hx⟩ := vwl_1 h
    split at e
    · rename_i p e1
      split at e
      · rename_i hc; cases e
        exact .atom (by simp only [Pv.bi, pd_vw f _ _ _ _ e1 hx, if_pos hc] <;> rfl) rfl (by simp only [Rep])
      · cases e
    · cases e
  · obtain ⟨d, rfl, hx⟩ := vwl_1 h
    rw [vw_str hx]
    split at e
    · rename_i hl; cases e; exact .cell (c := .lst _) (by simp only [Pv.bi, if_pos hl] <;> rfl) (repL_map (fun a => by simp only [wsign, sign, Rep]) _)
    · cases e
  · obtain ⟨d, rfl, hx⟩ := vwl_1 h
    rw [Option.map_eq_some_iff] at e
    obtain ⟨xs, e, rfl⟩ := e
    obtain ⟨es, e1, q⟩ := seq_vw f e hx
    exact .cell (c := .lst _) (seqD_list e1) q
  · obtain ⟨d, rfl, hx⟩ := vwl_1 h
    cases e
    obtain ⟨es, rfl, q⟩ := vw_tup hx
    exact .atom rfl rfl (by simp only [Rep]; exact ⟨_, rfl, q⟩)
  · obtain ⟨d, rfl, hx⟩ := vwl_1 h
    cases e
    obtain ⟨es, rfl, q⟩ := vw_fzl hx
    exact .atom rfl rfl (by simp only [Rep]; exact ⟨_, rfl, q⟩)
  · obtain ⟨d, rfl, hx⟩ := vwl_1 h
    cases e
    obtain ⟨j, es, rfl, e1, q⟩ := vw_lst f hx
    exact .atom (by simp only [Pv.bi, e1] <;> rfl) rfl (by simp only [Rep]; exact ⟨_, rfl, q⟩)
  · obtain ⟨d, rfl, hx⟩ := vwl_1 h
    rw [Option.map_eq_some_iff] at e
    obtain ⟨ps, e, rfl⟩ := e
    obtain ⟨j, es, rfl, e1, q⟩ := vw_lst f hx
    obtain ⟨qs, e2, q2⟩ := pairs_rep q e
    exact .cell (c := .dic false _) (by simp only [Pv.bi, e1, e2] <;> rfl) (repK_merge (ws := []) (ds := []) q2 rfl)
  · obtain ⟨d, rfl, hx⟩ := vwl_1 h
    cases e
    obtain ⟨j, es, rfl, e1, q⟩ := vw_dic f hx
    exact .cell (c := .dic false _) (by simp only [Pv.bi, e1] <;> rfl) q
  · obtain ⟨d, rfl, hx⟩ := vwl_1 h
    rw [vw_int hx]; cases e
    exact .atom rfl rfl (by simp only [Rep])
  · obtain ⟨d, rfl, hx⟩ := vwl_1 h
    rw [vw_bl hx]; cases e
    exact .atom rfl rfl (by simp only [Rep])
  · obtain ⟨d, rfl, hx⟩ := vwl_1 h
    obtain ⟨j, es, rfl, e1, q⟩ := vw_lst f hx
    split at e
    · rename_i hl
      rw [Option.map_eq_some_iff] at e
      obtain ⟨ys, e, rfl⟩ := e
      obtain ⟨zs, e2, q2⟩ := sort_rep q e
      rw [← repL_len q] at hl
      exact .cell (c := .lst _) (by simp only [Pv.bi, seqD, e1, e2, if_pos hl] <;> rfl) q2
    · cases e
  · obtain ⟨d, rfl, hx⟩ := vwl_1 h
    obtain ⟨j, es, rfl, e1, q⟩ := vw_dic f hx
    split at e
    · rename_i hl
      rw [Option.map_eq_some_iff] at e
      obtain ⟨ys, e, rfl⟩ := e
      obtain ⟨zs, e2, q2⟩ := sort_rep (repL_keys q) e
      rw [← repK_len q] at hl
      exact .cell (c := .lst _) (by simp only [Pv.bi, seqD, e1, e2, List.length_map, if_pos hl] <;> rfl) q2
    · cases e
  · cases e
/-! ### methods -/
theorem findIdx_rep {ws : List PyData} : True := trivial
theorem mi_vw (f : FzOk Z S) {m : M} {x w : W} {ws : List W} {dx : D} {ds : List D} (e : miW m x ws = some w) (hx : Vw Z S x dx) (h : VwL Z S ws ds) (h2 : ws.length ≠ 1 → RepL Z ws ds) : mtOk m dx S = true ∧ ∃ d, mi m dx ds S = .ok d S ∧ Rep Z w d := by
  unfold miW at e
  split at e
  · obtain ⟨d, rfl, hy⟩ := vwl_1 h
    rw [vw_str hx, vw_str hy]
    split at e
    · rename_i o; cases e; exact ⟨rfl, _, by simp only [Pv.mi, o] <;> rfl, by simp only [Rep]⟩
    · cases e
  · obtain ⟨d, rfl, hy⟩ := vwl_1 h
    obtain ⟨j, es, rfl, e1, q⟩ := vw_lst f hx
    split at e
    · rename_i a bs ea eb
      split at e
      · rename_i o; cases e
        exact ⟨by simp only [mtOk, e1], _, by simp only [Pv.mi, e1, pd_vw f _ _ _ _ ea hy, pds_vw f _ _ _ _ eb q, o] <;> rfl, by simp only [Rep]⟩
      · cases e
    · cases e
  · cases h
    rw [vw_str hx]
    split at e
    · rename_i hc; cases e; exact ⟨rfl, _, by simp only [Pv.mi, if_pos hc] <;> rfl, by simp only [Rep]⟩
    · cases e
  · obtain ⟨d, rfl, hy⟩ := vwl_1 h
    obtain ⟨j, es, rfl, e1, q⟩ := vw_dic f hx
    rw [Option.map_eq_some_iff] at e
    obtain ⟨k, ek, rfl⟩ := e
    refine ⟨by simp only [mtOk, e1], _, by simp only [Pv.mi, e1, key_vw ek hy] <;> rfl, ?_⟩
    have := repK_get k q
    split at this
    · rename_i e2; obtain ⟨d, h1, h2⟩ := this; rw [e2, h1]; exact h2
    · rename_i e2; rw [e2, this]; simp only [Option.getD_none, Rep]
  · obtain ⟨d, d2, rfl, hy, hz⟩ := vwl_2 h
    obtain ⟨j, es, rfl, e1, q⟩ := vw_dic f hx
    rw [Option.map_eq_some_iff] at e
    obtain ⟨k, ek, rfl⟩ := e
    refine ⟨by simp only [mtOk, e1], _, by simp only [Pv.mi, e1, key_vw ek hy] <;> rfl, ?_⟩
    have := repK_get k q
    split at this
    · rename_i e2; obtain ⟨d, h1, h2⟩ := this; rw [e2, h1]; exact h2
    · rename_i e2; rw [e2, this]; simp only [Option.getD_none]
      have := h2 (by simp)
      simp only [RepL] at this
      obtain ⟨_, _, e3, _, _, _, e4, r, e5⟩ := this
      cases e3; cases e4
      exact r
  · obtain ⟨d, rfl, hy⟩ := vwl_1 h
    obtain ⟨j, es, rfl, e1, q⟩ := vw_lst f hy
    rw [vw_str hx]
    split at e
    · rename_i ys ey
      split at e
      · rename_i hc; cases e; exact ⟨rfl, _, by simp only [Pv.mi, e1, strs_rep q ey, if_pos hc] <;> rfl, by simp only [Rep]⟩
      · cases e
    · cases e
  · cases e
end
end Pq
set_option Elab.async false
set_option linter.all false
set_option maxRecDepth 100000
set_option maxHeartbeats 1000000
/-! what is looked at ahead of a run; what a run keeps -/
namespace Pq
open PySem PySem.Spec PyProof.Rows L2 Pv

abbrev DEnv := Pv.Env
def kd (κ : List Kd) (i : Nat) : Kd := (κ[i]?).getD .sh
/-- the slots that are handed on to be changed -/
def owS : List Kd → Es → List Nat
  | k :: ks, .cons (.var i) es => if k = .ow then i :: owS ks es else owS ks es
  | _ :: ks, .cons _ es => owS ks es
  | _, _ => []
def boS (κ : List Kd) : List Kd → Es → List Nat
  | k :: ks, .cons (.var i) es => if k = .bo ∧ kd κ i ≠ .sh then i :: boS κ ks es else boS κ ks es
  | _ :: ks, .cons _ es => boS κ ks es
  | _, _ => []
mutual
def mutE (T : QTbl) : E → List Nat
  | .var _ => []
  | .cst _ => []
  | .glb _ _ => []
  | .bin _ a b => mutE T a ++ mutE T b
  | .neg a => mutE T a
  | .not a => mutE T a
  | .and a b => mutE T a ++ mutE T b
  | .or a b => mutE T a ++ mutE T b
  | .ite t a b => mutE T t ++ (mutE T a ++ mutE T b)
  | .cmp _ a b => mutE T a ++ mutE T b
  | .chn _ _ a b c => mutE T a ++ (mutE T b ++ mutE T c)
  | .tup es => mutEs T es
  | .lst es => mutEs T es
  | .dic es => mutEs T es
  | .sub a i => mutE T a ++ mutE T i
  | .slc a lo hi => mutE T a ++ (mutO T lo ++ mutO T hi)
  | .rvs a => mutE T a
  | .cal f es => (match T.lookup f with
    | some fn => owS fn.kd es
    | none => []) ++ mutEs T es
  | .blt _ es => mutEs T es
  | .mth m a es => (match a with
    | .var i => if muM m = true then [i] else []
    | _ => []) ++ (mutE T a ++ mutEs T es)
  | .isi a _ => mutE T a
  | .lc elt _ _ es cd _ => mutEs T es ++ (mutE T elt ++ mutO T cd)
def mutEs (T : QTbl) : Es → List Nat
  | .nil => []
  | .cons e es => mutE T e ++ mutEs T es
def mutO (T : QTbl) : Op → List Nat
  | .no => []
  | .so e => mutE T e
end
def exM : M → Bool
  | .extend => true
  | .update => true
  | _ => false
def isV : E → Bool
  | .var _ => true
  | _ => false
/-- a name that is read stays as it is while the rest is evaluated -/
def apart (κ : List Kd) (a : E) (M : List Nat) : Bool := match a with
  | .var i => decide (kd κ i = .sh) || decide (i ∉ M)
  | _ => true
def cstOk : D → Bool
  | .non => true
  | .bl _ => true
  | .int _ => true
  | .str _ => true
  | _ => false
def tgSl : Tg → List Nat
  | .nm i => [i]
  | .tp is => is
def isOne : Es → Bool
  | .cons _ .nil => true
  | _ => false
mutual
/-- what comes of an expression: a new thing (true), one that may be told elsewhere, too (false) -/
def clsE (T : QTbl) (κ : List Kd) : E → Option Bool
  | .var i => if kd κ i = .sh then some false else none
  | .cst d => if cstOk d = true then some true else none
  | .glb _ d => if cstOk d = true then some true else none
  | .bin _ a b => if ((isV a || (clsE T κ a).isSome) && (isV b || (clsE T κ b).isSome) && apart κ a (mutE T b)) = true then some true else none
  | .neg a => if (isV a || (clsE T κ a).isSome) = true then some true else none
  | .not a => if (isV a || (clsE T κ a).isSome) = true then some true else none
  | .and a b => if (isV a || (clsE T κ a).isSome) = true then clsE T κ b else none
  | .or a b => if (isV a || (clsE T κ a).isSome) = true then clsE T κ b else none
  | .ite t a b => if (isV t || (clsE T κ t).isSome) = true then (match clsE T κ a, clsE T κ b with
    | some x, some y => some (x && y)
    | _, _ => none) else none
  | .cmp _ a b => if ((isV a || (clsE T κ a).isSome) && (isV b || (clsE T κ b).isSome) && apart κ a (mutE T b)) = true then some true else none
  | .chn _ _ a b c => if ((isV a || (clsE T κ a).isSome) && (isV b || (clsE T κ b).isSome) && (isV c || (clsE T κ c).isSome) && apart κ a (mutE T b) && apart κ b (mutE T c)) = true then some true else none
  | .tup es => if okEs T κ es = true then some true else none
  | .lst es => if okEs T κ es = true then some true else none
  | .dic es => (match es with
    | .nil => some true
    | _ => none)
  | .sub a i => if ((isV a || (clsE T κ a).isSome) && (clsE T κ i).isSome && apart κ a (mutE T i)) = true then some false else none
  | .slc a lo hi => if ((isV a || (clsE T κ a).isSome) && okO T κ lo && okO T κ hi && apart κ a (mutO T lo ++ mutO T hi)) = true then some true else none
  | .rvs a => if (isV a || (clsE T κ a).isSome) = true then some true else none
  | .cal f es => (match T.lookup f with
    | some fn => if (okA T κ fn.kd es && decide (owS fn.kd es).Nodup && (boS κ fn.kd es).all (fun i => decide (i ∉ owS fn.kd es ++ mutEs T es))) = true then some fn.fresh else none
    | none => none)
  | .blt _ es => if okArg T κ es = true then some true else none
  | .mth m a es => if muM m = true then (match a with
      | .var i => if (decide (kd κ i = .ow) && (if exM m = true then okArg T κ es && notArg i es else okEs T κ es) && decide (i ∉ mutEs T es)) = true then some false else none
      | _ => none) else if ((isV a || (clsE T κ a).isSome) && okArg T κ es && apart κ a (mutEs T es)) = true then some false else none
  | .isi a _ => if (isV a || (clsE T κ a).isSome) = true then some true else none
  | .lc elt tg _ es cd own => if (okArg T κ es && (clsE T κ elt).isSome && okC T κ cd && own.all (fun i => decide (kd κ i = .sh)) && (tgSl tg).all (fun i => decide (i ∈ own)) && apartS κ es (mutE T elt ++ mutO T cd)) = true then some true else none
def okEs (T : QTbl) (κ : List Kd) : Es → Bool
  | .nil => true
  | .cons e es => (clsE T κ e).isSome && okEs T κ es
def okO (T : QTbl) (κ : List Kd) : Op → Bool
  | .no => true
  | .so e => (clsE T κ e).isSome
/-- a comprehension's test -/
def okC (T : QTbl) (κ : List Kd) : Op → Bool
  | .no => true
  | .so e => (clsE T κ e).isSome
/-- one operand, or several shared things -/
def okArg (T : QTbl) (κ : List Kd) : Es → Bool
  | .cons e es => (match es with
    | .nil => isV e || (clsE T κ e).isSome
    | es => (clsE T κ e).isSome && okEs T κ es)
  | .nil => true
def okA (T : QTbl) (κ : List Kd) : List Kd → Es → Bool
  | _, .nil => true
  | k :: ks, .cons e es => (match k with
    | .sh => (clsE T κ e).isSome
    | .bo => isV e || (clsE T κ e).isSome
    | .ow => (match e with
      | .var i => decide (kd κ i = .ow)
      | e => clsE T κ e == some true)) && okA T κ ks es
  | [], .cons _ _ => false
def notArg (i : Nat) : Es → Bool
  | .cons (.var j) .nil => decide (i ≠ j)
  | _ => true
def apartS (κ : List Kd) : Es → List Nat → Bool
  | .cons (.var i) .nil, M => decide (kd κ i = .sh) || decide (i ∉ M)
  | _, _ => true
end

/-! ### what is kept -/
def SlotR (k : Kd) (Z : Fz) (S : Store) (w : W) (d : D) : Prop := match k with
  | .sh => Rep Z w d
  | .ow => Own Z S w d
  | .bo => Vw Z S w d
structure Inv (κ : List Kd) (Z : Fz) (S : Store) (ρ : QEnv) (σ : DEnv) : Prop where
  len : ρ.length = σ.length
  fz : FzOk Z S
  slot : ∀ i w, ρ[i]? = some (some w) → ∃ d, σ[i]? = some (some d) ∧ SlotR (kd κ i) Z S w d
  lt : ∀ i j, kd κ i ≠ .sh → σ[i]? = some (some (.ref j)) → j < S.length
  dis : ∀ i i' j, kd κ i = .ow → i ≠ i' → kd κ i' ≠ .sh → σ[i]? = some (some (.ref j)) → σ[i']? ≠ some (some (.ref j))
  nz : ∀ i j, kd κ i = .ow → σ[i]? = some (some (.ref j)) → Z j = none
  full : ∀ i d, kd κ i = .ow → σ[i]? = some (some d) → ∃ w, ρ[i]? = some (some w)
structure Stp (κ : List Kd) (M : List Nat) (σ : DEnv) (Z Z' : Fz) (S S' : Store) : Prop where
  grow : S.length ≤ S'.length
  zo : ∀ j, j < S.length → Z' j = Z j
  same : ∀ j, j < S.length → (∀ i ∈ M, kd κ i = .ow → σ[i]? ≠ some (some (.ref j))) → S'[j]? = S[j]?
def Res (b : Bool) (n : Nat) (Z : Fz) (S : Store) (w : W) (d : D) : Prop := if b = true then Frs n Z S w d else Rep Z w d
section
variable {κ : List Kd} {M M' : List Nat} {σ : DEnv} {Z Z' Z2 : Fz} {S S' S2 : Store} {ρ ρ' : QEnv} {w : W} {d : D} {n : Nat}
theorem FzOk.lt (f : FzOk Z S) {j : Nat} {w : W} (h : Z j = some w) : j < S.length := by
  obtain ⟨c, e, _⟩ := f j w h
  exact (List.getElem?_eq_some_iff.mp e).1
theorem Stp.mono (s : Stp κ M σ Z Z' S S') (f : FzOk Z S) : Mono Z Z' := fun j w h => by rw [s.zo j (f.lt h)]; exact h
theorem Stp.refl : Stp κ M σ Z Z S S := ⟨Nat.le_refl _, fun _ _ => rfl, fun _ _ _ => rfl⟩
theorem Stp.trans (a : Stp κ M σ Z Z' S S') (b : Stp κ M' σ Z' Z2 S' S2) : Stp κ (M ++ M') σ Z Z2 S S2 :=
  ⟨Nat.le_trans a.grow b.grow, fun j h => (b.zo j (Nat.lt_of_lt_of_le h a.grow)).trans (a.zo j h), fun j h q => by
    rw [b.same j (Nat.lt_of_lt_of_le h a.grow) fun i hi => q i (List.mem_append_right _ hi), a.same j h fun i hi => q i (List.mem_append_left _ hi)]⟩
theorem Stp.weak (a : Stp κ M σ Z Z' S S') (h : ∀ i ∈ M, i ∈ M') : Stp κ M' σ Z Z' S S' := ⟨a.grow, a.zo, fun j hj q => a.same j hj fun i hi => q i (h i hi)⟩
theorem SlotR.vw {k : Kd} (h : SlotR k Z S w d) : Vw Z S w d := by
  cases k with
  | sh => exact .inl h
  | ow => exact Frs.vw h
  | bo => exact h
theorem Frs.weak {m : Nat} (h : Frs n Z S w d) (l : m ≤ n) : Frs m Z S w d := by
  rcases h with h | ⟨j, c, e, h1, h2⟩
  · exact .inl h
  · exact .inr ⟨j, c, e, Nat.le_trans l h1, h2⟩
/-- a new thing goes on being new while others are evaluated -/
theorem Frs.later (h : Frs n Z S w d) (f : FzOk Z S) (s : Stp κ M σ Z Z' S S') (lt : ∀ i j, kd κ i ≠ .sh → σ[i]? = some (some (.ref j)) → j < n) : Frs n Z' S' w d := by
  rcases h with ⟨a, h⟩ | ⟨j, c, e, h1, h2, h3, h4⟩
  · exact .inl ⟨a, h.mono (s.mono f)⟩
  · have hj := (List.getElem?_eq_some_iff.mp h3).1
    refine .inr ⟨j, c, e, h1, by rw [s.zo j hj]; exact h2, ?_, h4.mono (s.mono f)⟩
    rw [s.same j hj fun i _ ho q => ?_]
    · exact h3
    · have := lt i j (by rw [ho]; decide) q; omega
/-- from now on nobody changes it -/
theorem freeze (I : Inv κ Z' S' ρ σ) (s : Stp κ M σ Z Z' S S') (lt : ∀ i j, kd κ i ≠ .sh → σ[i]? = some (some (.ref j)) → j < S.length) (h : Frs S.length Z' S' w d) : ∃ Z2, Inv κ Z2 S' ρ σ ∧ Stp κ M σ Z Z2 S S' ∧ Rep Z2 w d ∧ Mono Z' Z2 := by
  rcases h with ⟨a, h⟩ | ⟨j, c, rfl, h1, h2, h3, h4⟩
  · exact ⟨Z', I, s, h, fun _ _ h => h⟩
  · have m : Mono Z' (fun i => if i = j then some w else Z' i) := fun i u e => by
      by_cases q : i = j
      · subst q; rw [h2] at e; cases e
      · simp only [if_neg q]; exact e
    refine ⟨fun i => if i = j then some w else Z' i, ⟨I.len, fun i u e => ?_, fun i u e => ?_, I.lt, I.dis, fun i i' ho e => ?_, I.full⟩, ⟨s.grow, fun i hi => ?_, s.same⟩, ?_, m⟩
    · by_cases q : i = j
      · subst q
        simp only [if_true] at e
        cases e
        exact ⟨c, h3, h4.mono m⟩
      · simp only [if_neg q] at e
        obtain ⟨c', e1, e2⟩ := I.fz _ _ e
        exact ⟨c', e1, e2.mono m⟩
    · obtain ⟨d, e1, e2⟩ := I.slot i u e
      refine ⟨d, e1, ?_⟩
      revert e2
      cases hk : kd κ i with
      | sh => exact fun e2 => Rep.mono m _ _ e2
      | ow =>
        rintro (⟨a, e2⟩ | ⟨j', c', e2, e3, e4, e5, e6⟩)
        · exact .inl ⟨a, e2.mono m⟩
        · refine .inr ⟨j', c', e2, e3, ?_, e5, e6.mono m⟩
          have : j' ≠ j := by
            rintro rfl
            subst e2
            have := lt i j' (by rw [hk]; decide) e1
            omega
          simp only [if_neg this]; exact e4
      | bo =>
        rintro (e2 | ⟨j', c', e2, e5, e6⟩)
        · exact .inl (e2.mono m)
        · exact .inr ⟨j', c', e2, e5, e6.mono m⟩
    · have : i' ≠ j := by
        rintro rfl
        have := lt i i' (by rw [ho]; decide) e
        omega
      simp only [if_neg this]; exact I.nz i i' ho e
    · have : i ≠ j := by omega
      simp only [if_neg this]; exact s.zo i hi
    · cases w <;> simp only [RepC] at h4 <;> simp only [Rep] <;> first | exact h4.elim | exact ⟨j, rfl, by simp only [if_true]⟩
/-- what an operand comes to -/
def Opd (κ : List Kd) (σ : DEnv) (e : E) (n : Nat) (Z : Fz) (S : Store) (w : W) (d : D) : Prop := Rep Z w d ∨ Frs n Z S w d ∨ ∃ i, e = .var i ∧ kd κ i ≠ .sh ∧ σ[i]? = some (some d) ∧ Vw Z S w d
theorem Opd.vw {e : E} (h : Opd κ σ e n Z S w d) : Vw Z S w d := by
  rcases h with h | h | ⟨_, _, _, _, h⟩
  · exact .inl h
  · exact h.vw
  · exact h
theorem Opd.later {e : E} (h : Opd κ σ e n Z S w d) (I : Inv κ Z S ρ σ) (s : Stp κ M σ Z Z' S S') (lt : ∀ i j, kd κ i ≠ .sh → σ[i]? = some (some (.ref j)) → j < n) (ap : apart κ e M = true) : Opd κ σ e n Z' S' w d := by
  rcases h with h | h | ⟨i, rfl, hk, e1, h⟩
  · exact .inl (h.mono (s.mono I.fz))
  · exact .inr (.inl (h.later I.fz s lt))
  · refine .inr (.inr ⟨i, rfl, hk, e1, ?_⟩)
    rcases h with h | ⟨j, c, rfl, h1, h2⟩
    · exact .inl (h.mono (s.mono I.fz))
    · refine .inr ⟨j, c, rfl, ?_, h2.mono (s.mono I.fz)⟩
      rw [s.same j (List.getElem?_eq_some_iff.mp h1).1 fun i' hi' ho q => ?_]
      · exact h1
      · simp only [apart, Bool.or_eq_true, decide_eq_true_eq] at ap
        rcases ap with ap | ap
        · exact hk ap
        · exact I.dis i' i j ho (by rintro rfl; exact ap hi') hk q e1
end
end Pq
set_option Elab.async false
set_option linter.all false
set_option maxRecDepth 100000
set_option maxHeartbeats 1000000
/-! expressions over values are those over the store -/
namespace Pq
open PySem PySem.Spec PyProof.Rows L2 Pv

def ClOk (T : QTbl) (clq : QCl) (cl : Pv.Cl) : Prop := ∀ f fn ws w os, T.lookup f = some fn → clq f ws = .ok w os → ∀ Z S ds, Inv fn.kd Z S (ws.map some) (ds.map some) → ∃ d S' Z', cl f ds S = .ok d S' ∧ FzOk Z' S' ∧ S.length ≤ S'.length ∧
  (∀ j, j < S.length → Z' j = Z j) ∧ (∀ j, j < S.length → (∀ p, kd fn.kd p = .ow → ds[p]? ≠ some (.ref j)) → S'[j]? = S[j]?) ∧
  (∀ p d', kd fn.kd p = .ow → ds[p]? = some d' → ∃ w', os[p]? = some (some w') ∧ Own Z' S' w' d') ∧ Res fn.fresh S.length Z' S' w d
variable {T : QTbl} {κ : List Kd} {clq : QCl} {cl : Pv.Cl}
def SndE (T : QTbl) (κ : List Kd) (clq : QCl) (cl : Pv.Cl) (e : E) : Prop := ∀ b ρ w ρ' Z S σ, clsE T κ e = some b → evQ clq T e ρ = .ok w ρ' → Inv κ Z S ρ σ → ∃ d S' Z', ev cl e σ S = .ok d S' ∧ Inv κ Z' S' ρ' σ ∧ Stp κ (mutE T e) σ Z Z' S S' ∧ Res b S.length Z' S' w d
def SndEs (T : QTbl) (κ : List Kd) (clq : QCl) (cl : Pv.Cl) (es : Es) : Prop := ∀ ρ ws ρ' Z S σ, okEs T κ es = true → evsQ clq T es ρ = .ok ws ρ' → Inv κ Z S ρ σ → ∃ ds S' Z', evs cl es σ S = .ok ds S' ∧ Inv κ Z' S' ρ' σ ∧ Stp κ (mutEs T es) σ Z Z' S S' ∧ RepL Z' ws ds
def SndO (T : QTbl) (κ : List Kd) (clq : QCl) (cl : Pv.Cl) (o : Op) : Prop := ∀ ρ i ρ' Z S σ, okO T κ o = true → evoQ clq T o ρ = .ok i ρ' → Inv κ Z S ρ σ → ∃ S' Z', evo cl o σ S = .ok i S' ∧ Inv κ Z' S' ρ' σ ∧ Stp κ (mutO T o) σ Z Z' S S'
theorem QR.bind_inv {α β : Type} {r : QR α} {f : α → QEnv → QR β} {b : β} {ρ' : QEnv} (h : r.bind f = .ok b ρ') : ∃ a ρ1, r = .ok a ρ1 ∧ f a ρ1 = .ok b ρ' := by
  cases r with
  | ok a ρ1 => exact ⟨a, ρ1, rfl, h⟩
  | ex c fs ρ1 => cases h
  | no => cases h
theorem optQ_inv {α : Type} {o : Option α} {ρ ρ' : QEnv} {a : α} (h : optQ o ρ = .ok a ρ') : o = some a ∧ ρ = ρ' := by
  cases o with
  | none => cases h
  | some b => cases h; exact ⟨rfl, rfl⟩
theorem isBQ_inv {α : Type} {x : W} {k : Bool → QR α} {a : α} {ρ : QEnv} (h : isBQ x k = .ok a ρ) : ∃ b, x = .bl b ∧ k b = .ok a ρ := by
  cases x <;> first | exact ⟨_, rfl, h⟩ | cases h
section
variable {M M' : List Nat} {σ : DEnv} {Z Z' Z2 : Fz} {S S' S2 : Store} {ρ ρ' : QEnv} {w : W} {d : D} {n : Nat} {e : E}
theorem Inv.ltS (I : Inv κ Z S ρ σ) : ∀ i j, kd κ i ≠ .sh → σ[i]? = some (some (.ref j)) → j < S.length := I.lt
theorem Inv.more (I : Inv κ Z S ρ σ) (c : Cell) : Inv κ Z (S ++ [c]) ρ σ := by
  have get : ∀ {j : Nat} {c' : Cell}, S[j]? = some c' → (S ++ [c])[j]? = some c' := fun {j c'} h => by
    rw [List.getElem?_append_left (List.getElem?_eq_some_iff.mp h).1]; exact h
  have fr : ∀ {n w d}, Frs n Z S w d → Frs n Z (S ++ [c]) w d := fun {n w d} h => by
    rcases h with h | ⟨j, c', e, h1, h2, h3, h4⟩
    · exact .inl h
    · exact .inr ⟨j, c', e, h1, h2, get h3, h4⟩
  refine ⟨I.len, fun j w h => ?_, fun i w h => ?_, fun i j h e => ?_, I.dis, I.nz, I.full⟩
  · obtain ⟨c', e1, e2⟩ := I.fz j w h
    exact ⟨c', get e1, e2⟩
  · obtain ⟨d, e1, e2⟩ := I.slot i w h
    refine ⟨d, e1, ?_⟩
    revert e2
    cases kd κ i with
    | sh => exact id
    | ow => exact fr
    | bo =>
      rintro (h | ⟨j, c', e, h1, h2⟩)
      · exact .inl h
      · exact .inr ⟨j, c', e, get h1, h2⟩
  · have := I.lt i j h e
    rw [List.length_append]; exact Nat.lt_of_lt_of_le this (Nat.le_add_right _ _)
theorem Stp.more (c : Cell) : Stp κ M σ Z Z S (S ++ [c]) := ⟨by simp, fun _ _ => rfl, fun j h _ => by rw [List.getElem?_append_left h]⟩
theorem new_res {r : R D} (I : Inv κ Z S ρ σ) (h : NewR Z S w r) : ∃ d S', r = .ok d S' ∧ Inv κ Z S' ρ σ ∧ Stp κ [] σ Z Z S S' ∧ Frs S.length Z S' w d := by
  rcases h with ⟨d, e, a, h⟩ | ⟨c, e, h⟩
  · exact ⟨d, S, e, I, Stp.refl, .inl ⟨a, h⟩⟩
  · refine ⟨_, _, e, I.more c, Stp.more c, .inr ⟨S.length, c, rfl, Nat.le_refl _, ?_, by simp, h⟩⟩
    cases q : Z S.length with
    | none => rfl
    | some w => exact absurd (I.fz.lt q) (Nat.lt_irrefl _)
theorem Stp.wk (a : Stp κ (M ++ []) σ Z Z' S S') : Stp κ M σ Z Z' S S' := by rwa [List.append_nil] at a
/-- an operand -/
theorem SndE.opd (h : SndE T κ clq cl e) (ok : (isV e || (clsE T κ e).isSome) = true) (q : evQ clq T e ρ = .ok w ρ') (I : Inv κ Z S ρ σ) : ∃ d S' Z', ev cl e σ S = .ok d S' ∧ Inv κ Z' S' ρ' σ ∧ Stp κ (mutE T e) σ Z Z' S S' ∧ Opd κ σ e S.length Z' S' w d := by
  cases hc : clsE T κ e with
  | some b =>
    obtain ⟨d, S', Z', e1, I', s, r⟩ := h b ρ w ρ' Z S σ hc q I
    refine ⟨d, S', Z', e1, I', s, ?_⟩
    cases b with
    | true => exact .inr (.inl r)
    | false => exact .inl r
  | none =>
    rw [hc] at ok
    cases e <;> first | (cases ok; done) | skip
    rename_i i
    simp only [evQ] at q
    split at q
    · rename_i u eu
      cases q
      obtain ⟨d, e1, e2⟩ := I.slot i w eu
      refine ⟨d, S, Z, by simp only [ev, e1], I, Stp.refl, .inr (.inr ⟨i, rfl, fun z => ?_, e1, e2.vw⟩)⟩
      simp only [clsE, z, if_true] at hc
      cases hc
    · cases q
theorem SndE.sh (h : SndE T κ clq cl e) (ok : (clsE T κ e).isSome = true) (q : evQ clq T e ρ = .ok w ρ') (I : Inv κ Z S ρ σ) : ∃ d S' Z', ev cl e σ S = .ok d S' ∧ Inv κ Z' S' ρ' σ ∧ Stp κ (mutE T e) σ Z Z' S S' ∧ Rep Z' w d := by
  obtain ⟨b, hc⟩ := Option.isSome_iff_exists.mp ok
  obtain ⟨d, S', Z', e1, I', s, r⟩ := h b ρ w ρ' Z S σ hc q I
  cases b with
  | false => exact ⟨d, S', Z', e1, I', s, r⟩
  | true =>
    obtain ⟨Z2, I2, s2, r2, _⟩ := freeze I' s I.lt r
    exact ⟨d, S', Z2, e1, I2, s2, r2⟩
theorem Frs.res (h : Frs n Z S w d) (a : atomW w = true) : Rep Z w d := vw_atom a h.vw
theorem Res.atom {b : Bool} (a : atomW w = true) (h : Rep Z w d) : Res b n Z S w d := by
  unfold Res
  split
  · exact .inl ⟨a, h⟩
  · exact h
/-! ### cases -/
theorem c_var (i : Nat) : SndE T κ clq cl (.var i) := fun b ρ w ρ' Z S σ hc q I => by
  simp only [evQ] at q
  split at q
  · rename_i u eu
    cases q
    obtain ⟨d, e1, e2⟩ := I.slot i w eu
    simp only [clsE] at hc
    split at hc
    · rename_i hk
      cases hc
      rw [hk] at e2
      exact ⟨d, S, Z, by simp only [ev, e1], I, Stp.refl, e2⟩
    · cases hc
  · cases q
theorem cst_rep {d : D} (h : cstOk d = true) : atomW (ofD d) = true ∧ Rep Z (ofD d) d := by
  cases d <;> simp only [cstOk] at h <;> first | (cases h; done) | exact ⟨rfl, by simp only [ofD, Rep]⟩
theorem c_cst (d : D) : SndE T κ clq cl (.cst d) := fun b ρ w ρ' Z S σ hc q I => by
  simp only [evQ] at q
  cases q
  simp only [clsE] at hc
  split at hc
  · rename_i hk
    obtain ⟨a, r⟩ := cst_rep (Z := Z) hk
    exact ⟨d, S, Z, by simp only [ev], I, Stp.refl, .atom a r⟩
  · cases hc
theorem c_glb (x : Str) (d : D) : SndE T κ clq cl (.glb x d) := fun b ρ w ρ' Z S σ hc q I => by
  simp only [evQ] at q
  cases q
  simp only [clsE] at hc
  split at hc
  · rename_i hk
    obtain ⟨a, r⟩ := cst_rep (Z := Z) hk
    exact ⟨d, S, Z, by simp only [ev], I, Stp.refl, .atom a r⟩
  · cases hc
/-- two operands -/
theorem opd2 {a b : E} (ha : SndE T κ clq cl a) (hb : SndE T κ clq cl b) (oa : (isV a || (clsE T κ a).isSome) = true) (ob : (isV b || (clsE T κ b).isSome) = true) (ap : apart κ a (mutE T b) = true) {x y : W} {ρ1 ρ2 : QEnv}
    (qa : evQ clq T a ρ = .ok x ρ1) (qb : evQ clq T b ρ1 = .ok y ρ2) (I : Inv κ Z S ρ σ) : ∃ dx dy S1 S' Z', ev cl a σ S = .ok dx S1 ∧ ev cl b σ S1 = .ok dy S' ∧ Inv κ Z' S' ρ2 σ ∧ Stp κ (mutE T a ++ mutE T b) σ Z Z' S S' ∧ Vw Z' S' x dx ∧ Vw Z' S' y dy := by
  obtain ⟨dx, S1, Z1, e1, I1, s1, r1⟩ := ha.opd oa qa I
  obtain ⟨dy, S2, Z2, e2, I2, s2, r2⟩ := hb.opd ob qb I1
  exact ⟨dx, dy, S1, S2, Z2, e1, e2, I2, s1.trans s2, (r1.later I1 s2 I.lt ap).vw, r2.vw⟩
theorem c_bin {op : Operator} {a b : E} (ha : SndE T κ clq cl a) (hb : SndE T κ clq cl b) : SndE T κ clq cl (.bin op a b) := fun c ρ w ρ' Z S σ hc q I => by
  simp only [clsE] at hc
  split at hc
  · rename_i ok
    simp only [Bool.and_eq_true] at ok
    cases hc
    simp only [evQ] at q
    obtain ⟨x, ρ1, q1, q⟩ := QR.bind_inv q
    obtain ⟨y, ρ2, q2, q⟩ := QR.bind_inv q
    obtain ⟨qo, rfl⟩ := optQ_inv q
    obtain ⟨dx, dy, S1, S2, Z2, e1, e2, I2, s, vx, vy⟩ := opd2 ha hb ok.1.1 ok.1.2 ok.2 q1 q2 I
    obtain ⟨d, S3, e3, I3, s3, r⟩ := new_res I2 (binop_vw I2.fz qo vx vy)
    exact ⟨d, S3, Z2, by simp only [ev, e1, e2, e3, R.bind_ok], I3, (s.trans s3).wk, Frs.weak r s.grow⟩
  · cases hc
theorem c_cmp {op : CmpOp} {a b : E} (ha : SndE T κ clq cl a) (hb : SndE T κ clq cl b) : SndE T κ clq cl (.cmp op a b) := fun c ρ w ρ' Z S σ hc q I => by
  simp only [clsE] at hc
  split at hc
  · rename_i ok
    simp only [Bool.and_eq_true] at ok
    cases hc
    simp only [evQ] at q
    obtain ⟨x, ρ1, q1, q⟩ := QR.bind_inv q
    obtain ⟨y, ρ2, q2, q⟩ := QR.bind_inv q
    obtain ⟨qo, rfl⟩ := optQ_inv q
    rw [Option.map_eq_some_iff] at qo
    obtain ⟨k, qo, rfl⟩ := qo
    obtain ⟨dx, dy, S1, S2, Z2, e1, e2, I2, s, vx, vy⟩ := opd2 ha hb ok.1.1 ok.1.2 ok.2 q1 q2 I
    exact ⟨.bl k, S2, Z2, by simp only [ev, e1, e2, cmpop_vw I2.fz qo vx vy, R.bind_ok], I2, s, .atom rfl (by simp only [Rep])⟩
  · cases hc
theorem c_chn {o p : CmpOp} {a b c : E} (ha : SndE T κ clq cl a) (hb : SndE T κ clq cl b) (hd : SndE T κ clq cl c) : SndE T κ clq cl (.chn o p a b c) := fun c' ρ w ρ' Z S σ hc q I => by
  simp only [clsE] at hc
  split at hc
  · rename_i ok
    simp only [Bool.and_eq_true] at ok
    obtain ⟨⟨⟨⟨oa, ob⟩, oc⟩, ab⟩, bc⟩ := ok
    cases hc
    simp only [evQ] at q
    obtain ⟨x, ρ1, q1, q⟩ := QR.bind_inv q
    obtain ⟨y, ρ2, q2, q⟩ := QR.bind_inv q
    obtain ⟨k, ρ3, q3, q⟩ := QR.bind_inv q
    obtain ⟨q3o, rfl⟩ := optQ_inv q3
    obtain ⟨dx, S1, Z1, e1, I1, s1, r1⟩ := ha.opd oa q1 I
    obtain ⟨dy, S2, Z2, e2, I2, s2, r2⟩ := hb.opd ob q2 I1
    have vx := (r1.later I1 s2 I.lt ab).vw
    have e3 := cmpop_vw I2.fz q3o vx r2.vw
    cases k with
    | false =>
      simp only [Bool.false_eq_true, if_false] at q
      cases q
      refine ⟨.bl false, S2, Z2, by simp only [ev, e1, e2, e3, R.bind_ok, isB, Bool.false_eq_true, if_false], I2, (s1.trans s2).weak fun i hi => ?_, .atom rfl (by simp only [Rep])⟩
      simp only [mutE, List.mem_append] at hi ⊢
      exact hi.elim .inl fun h => .inr (.inl h)
    | true =>
      simp only [if_true] at q
      obtain ⟨z, ρ4, q4, q⟩ := QR.bind_inv q
      obtain ⟨qo, rfl⟩ := optQ_inv q
      rw [Option.map_eq_some_iff] at qo
      obtain ⟨k, qo, rfl⟩ := qo
      obtain ⟨dz, S3, Z3, e4, I3, s3, r3⟩ := hd.opd oc q4 I2
      have vy := (r2.later I2 s3 I1.lt bc).vw
      exact ⟨.bl k, S3, Z3, by simp only [ev, e1, e2, e3, R.bind_ok, isB, if_true, e4, cmpop_vw I3.fz qo vy r3.vw], I3, s1.trans (s2.trans s3), .atom rfl (by simp only [Rep])⟩
  · cases hc
theorem c_neg {a : E} (ha : SndE T κ clq cl a) : SndE T κ clq cl (.neg a) := fun c ρ w ρ' Z S σ hc q I => by
  simp only [clsE] at hc
  split at hc
  · rename_i ok
    cases hc
    simp only [evQ] at q
    obtain ⟨x, ρ1, q1, q⟩ := QR.bind_inv q
    split at q
    · cases q
      obtain ⟨dx, S1, Z1, e1, I1, s1, r1⟩ := ha.opd ok q1 I
      have := vw_int r1.vw
      subst this
      exact ⟨_, S1, Z1, by simp only [ev, e1, R.bind_ok] <;> rfl, I1, s1, .atom rfl (by simp only [Rep])⟩
    · cases q
  · cases hc
theorem c_not {a : E} (ha : SndE T κ clq cl a) : SndE T κ clq cl (.not a) := fun c ρ w ρ' Z S σ hc q I => by
  simp only [clsE] at hc
  split at hc
  · rename_i ok
    cases hc
    simp only [evQ] at q
    obtain ⟨x, ρ1, q1, q⟩ := QR.bind_inv q
    obtain ⟨k, rfl, qk⟩ := isBQ_inv q
    cases qk
    obtain ⟨dx, S1, Z1, e1, I1, s1, r1⟩ := ha.opd ok q1 I
    have := vw_bl r1.vw
    subst this
    exact ⟨_, S1, Z1, by simp only [ev, e1, R.bind_ok, isB] <;> rfl, I1, s1, .atom rfl (by simp only [Rep])⟩
  · cases hc
theorem Res.weak {b : Bool} {m : Nat} (h : Res b n Z S w d) (l : m ≤ n) : Res b m Z S w d := by
  cases b with
  | true => exact Frs.weak h l
  | false => exact h
theorem c_and {a b : E} (ha : SndE T κ clq cl a) (hb : SndE T κ clq cl b) : SndE T κ clq cl (.and a b) := fun c ρ w ρ' Z S σ hc q I => by
  simp only [clsE] at hc
  split at hc
  · rename_i ok
    simp only [evQ] at q
    obtain ⟨x, ρ1, q1, q⟩ := QR.bind_inv q
    obtain ⟨k, rfl, qk⟩ := isBQ_inv q
    obtain ⟨dx, S1, Z1, e1, I1, s1, r1⟩ := ha.opd ok q1 I
    have := vw_bl r1.vw
    subst this
    cases k with
    | false =>
      simp only [Bool.false_eq_true, if_false] at qk
      cases qk
      exact ⟨_, S1, Z1, by simp only [ev, e1, R.bind_ok, isB, Bool.false_eq_true, if_false] <;> rfl, I1, s1.weak fun i hi => List.mem_append_left _ hi, .atom rfl (by simp only [Rep])⟩
    | true =>
      simp only [if_true] at qk
      obtain ⟨dy, S2, Z2, e2, I2, s2, r2⟩ := hb c ρ1 w ρ' Z1 S1 σ hc qk I1
      exact ⟨dy, S2, Z2, by simp only [ev, e1, R.bind_ok, isB, if_true, e2], I2, s1.trans s2, r2.weak s1.grow⟩
  · cases hc
theorem c_or {a b : E} (ha : SndE T κ clq cl a) (hb : SndE T κ clq cl b) : SndE T κ clq cl (.or a b) := fun c ρ w ρ' Z S σ hc q I => by
  simp only [clsE] at hc
  split at hc
  · rename_i ok
    simp only [evQ] at q
    obtain ⟨x, ρ1, q1, q⟩ := QR.bind_inv q
    obtain ⟨k, rfl, qk⟩ := isBQ_inv q
    obtain ⟨dx, S1, Z1, e1, I1, s1, r1⟩ := ha.opd ok q1 I
    have := vw_bl r1.vw
    subst this
    cases k with
    | true =>
      simp only [if_true] at qk
      cases qk
      exact ⟨_, S1, Z1, by simp only [ev, e1, R.bind_ok, isB, if_true] <;> rfl, I1, s1.weak fun i hi => List.mem_append_left _ hi, .atom rfl (by simp only [Rep])⟩
    | false =>
      simp only [Bool.false_eq_true, if_false] at qk
      obtain ⟨dy, S2, Z2, e2, I2, s2, r2⟩ := hb c ρ1 w ρ' Z1 S1 σ hc qk I1
      exact ⟨dy, S2, Z2, by simp only [ev, e1, R.bind_ok, isB, Bool.false_eq_true, if_false, e2], I2, s1.trans s2, r2.weak s1.grow⟩
  · cases hc
/-- a branch of two, told as both may be -/
theorem meet_res {e : E} (h : SndE T κ clq cl e) {b b' : Bool} (hc : clsE T κ e = some b) (l : b' = true → b = true) (q : evQ clq T e ρ = .ok w ρ') (I : Inv κ Z S ρ σ) : ∃ d S' Z', ev cl e σ S = .ok d S' ∧ Inv κ Z' S' ρ' σ ∧ Stp κ (mutE T e) σ Z Z' S S' ∧ Res b' S.length Z' S' w d := by
  cases b' with
  | true => have := l rfl; subst this; exact h true ρ w ρ' Z S σ hc q I
  | false => exact h.sh (by rw [hc]; rfl) q I
theorem c_ite {t a b : E} (ht : SndE T κ clq cl t) (ha : SndE T κ clq cl a) (hb : SndE T κ clq cl b) : SndE T κ clq cl (.ite t a b) := fun c ρ w ρ' Z S σ hc q I => by
  simp only [clsE] at hc
  split at hc
  · rename_i ok
    split at hc
    · rename_i x' y' ca cb
      cases hc
      simp only [evQ] at q
      obtain ⟨x, ρ1, q1, q⟩ := QR.bind_inv q
      obtain ⟨k, rfl, qk⟩ := isBQ_inv q
      obtain ⟨dx, S1, Z1, e1, I1, s1, r1⟩ := ht.opd ok q1 I
      have := vw_bl r1.vw
      subst this
      cases k with
      | true =>
        simp only [if_true] at qk
        obtain ⟨dy, S2, Z2, e2, I2, s2, r2⟩ := meet_res ha ca (b' := x' && y') (by cases x' <;> simp) qk I1
        refine ⟨dy, S2, Z2, by simp only [ev, e1, R.bind_ok, isB, if_true, e2], I2, (s1.trans s2).weak fun i hi => ?_, r2.weak s1.grow⟩
        simp only [mutE, List.mem_append] at hi ⊢
        exact hi.elim .inl fun h => .inr (.inl h)
      | false =>
        simp only [Bool.false_eq_true, if_false] at qk
        obtain ⟨dy, S2, Z2, e2, I2, s2, r2⟩ := meet_res hb cb (b' := x' && y') (by cases x' <;> simp) qk I1
        refine ⟨dy, S2, Z2, by simp only [ev, e1, R.bind_ok, isB, Bool.false_eq_true, if_false, e2], I2, (s1.trans s2).weak fun i hi => ?_, r2.weak s1.grow⟩
        simp only [mutE, List.mem_append] at hi ⊢
        exact hi.elim .inl fun h => .inr (.inr h)
    · cases hc
  · cases hc
theorem c_tup {es : Es} (h : SndEs T κ clq cl es) : SndE T κ clq cl (.tup es) := fun c ρ w ρ' Z S σ hc q I => by
  simp only [clsE] at hc
  split at hc
  · rename_i ok
    cases hc
    simp only [evQ] at q
    obtain ⟨ws, ρ1, q1, q⟩ := QR.bind_inv q
    split at q
    · rename_i hl
      cases q
      obtain ⟨ds, S1, Z1, e1, I1, s1, r1⟩ := h ρ ws _ Z S σ ok q1 I
      rw [← repL_len r1] at hl
      exact ⟨_, S1, Z1, by simp only [ev, e1, R.bind_ok, if_pos hl] <;> rfl, I1, s1, .inl ⟨rfl, by simp only [Rep]; exact ⟨ds, rfl, r1⟩⟩⟩
    · cases q
  · cases hc
theorem c_lst {es : Es} (h : SndEs T κ clq cl es) : SndE T κ clq cl (.lst es) := fun c ρ w ρ' Z S σ hc q I => by
  simp only [clsE] at hc
  split at hc
  · rename_i ok
    cases hc
    simp only [evQ] at q
    obtain ⟨ws, ρ1, q1, q⟩ := QR.bind_inv q
    split at q
    · rename_i hl
      cases q
      obtain ⟨ds, S1, Z1, e1, I1, s1, r1⟩ := h ρ ws _ Z S σ ok q1 I
      rw [← repL_len r1] at hl
      obtain ⟨d, S2, e2, I2, s2, r2⟩ := new_res I1 (NewR.cell (w := .lst ws) (c := .lst ds) rfl r1)
      exact ⟨d, S2, Z1, by simp only [ev, e1, R.bind_ok, if_pos hl, e2], I2, (s1.trans s2).wk, Frs.weak r2 s1.grow⟩
    · cases q
  · cases hc
theorem c_dic (es : Es) : SndE T κ clq cl (.dic es) := fun c ρ w ρ' Z S σ hc q I => by
  cases es with
  | cons _ _ => simp only [clsE] at hc; cases hc
  | nil =>
    simp only [clsE] at hc
    cases hc
    simp only [evQ] at q
    cases q
    obtain ⟨d, S2, e2, I2, s2, r2⟩ := new_res I (NewR.cell (Z := Z) (S := S) (w := .dic []) (c := .dic false []) rfl rfl)
    exact ⟨d, S2, Z, by simp only [ev, e2], I2, s2, r2⟩
theorem c_sub {a i : E} (ha : SndE T κ clq cl a) (hi : SndE T κ clq cl i) : SndE T κ clq cl (.sub a i) := fun c ρ w ρ' Z S σ hc q I => by
  simp only [clsE] at hc
  split at hc
  · rename_i ok
    simp only [Bool.and_eq_true] at ok
    cases hc
    simp only [evQ] at q
    obtain ⟨x, ρ1, q1, q⟩ := QR.bind_inv q
    obtain ⟨y, ρ2, q2, q⟩ := QR.bind_inv q
    obtain ⟨qo, rfl⟩ := optQ_inv q
    obtain ⟨dx, dy, S1, S2, Z2, e1, e2, I2, s, vx, vy⟩ := opd2 ha hi ok.1.1 (by rw [ok.1.2]; simp) ok.2 q1 q2 I
    obtain ⟨d, e3, r⟩ := sub_vw I2.fz qo vx vy
    exact ⟨d, S2, Z2, by simp only [ev, e1, e2, e3, R.bind_ok], I2, s, r⟩
  · cases hc
theorem c_rvs {a : E} (ha : SndE T κ clq cl a) : SndE T κ clq cl (.rvs a) := fun c ρ w ρ' Z S σ hc q I => by
  simp only [clsE] at hc
  split at hc
  · rename_i ok
    cases hc
    simp only [evQ] at q
    obtain ⟨x, ρ1, q1, q⟩ := QR.bind_inv q
    obtain ⟨qo, rfl⟩ := optQ_inv q
    obtain ⟨dx, S1, Z1, e1, I1, s1, r1⟩ := ha.opd ok q1 I
    obtain ⟨d, S2, e2, I2, s2, r2⟩ := new_res I1 (rv_vw I1.fz qo r1.vw)
    exact ⟨d, S2, Z1, by simp only [ev, e1, R.bind_ok, e2], I2, (s1.trans s2).wk, Frs.weak r2 s1.grow⟩
  · cases hc
theorem c_isi {a : E} {t : Ty} (ha : SndE T κ clq cl a) : SndE T κ clq cl (.isi a t) := fun c ρ w ρ' Z S σ hc q I => by
  simp only [clsE] at hc
  split at hc
  · rename_i ok
    cases hc
    simp only [evQ] at q
    obtain ⟨x, ρ1, q1, q⟩ := QR.bind_inv q
    cases q
    obtain ⟨dx, S1, Z1, e1, I1, s1, r1⟩ := ha.opd ok q1 I
    exact ⟨_, S1, Z1, by simp only [ev, e1, R.bind_ok, isi_vw I1.fz t r1.vw, retB] <;> rfl, I1, s1, .atom rfl (by simp only [Rep])⟩
  · cases hc
theorem c_slc {a : E} {lo hi : Op} (ha : SndE T κ clq cl a) (hl : SndO T κ clq cl lo) (hh : SndO T κ clq cl hi) : SndE T κ clq cl (.slc a lo hi) := fun c ρ w ρ' Z S σ hc q I => by
  simp only [clsE] at hc
  split at hc
  · rename_i ok
    simp only [Bool.and_eq_true] at ok
    cases hc
    simp only [evQ] at q
    obtain ⟨x, ρ1, q1, q⟩ := QR.bind_inv q
    obtain ⟨l, ρ2, q2, q⟩ := QR.bind_inv q
    obtain ⟨u, ρ3, q3, q⟩ := QR.bind_inv q
    obtain ⟨qo, rfl⟩ := optQ_inv q
    obtain ⟨dx, S1, Z1, e1, I1, s1, r1⟩ := ha.opd ok.1.1.1 q1 I
    obtain ⟨S2, Z2, e2, I2, s2⟩ := hl ρ1 l ρ2 Z1 S1 σ ok.1.1.2 q2 I1
    obtain ⟨S3, Z3, e3, I3, s3⟩ := hh ρ2 u ρ3 Z2 S2 σ ok.1.2 q3 I2
    have r3 := r1.later I1 (s2.trans s3) I.lt ok.2
    obtain ⟨d, S4, e4, I4, s4, r4⟩ := new_res I3 (slc_vw I3.fz qo r3.vw)
    exact ⟨d, S4, Z3, by simp only [ev, e1, e2, e3, R.bind_ok, e4], I4, ((s1.trans (s2.trans s3)).trans s4).wk, Frs.weak r4 (s1.trans (s2.trans s3)).grow⟩
  · cases hc
/-- one operand, or several shared things -/
theorem args {es : Es} (h1 : ∀ e, es = .cons e .nil → SndE T κ clq cl e) (h : SndEs T κ clq cl es) (ok : okArg T κ es = true) {ws : List W} (q : evsQ clq T es ρ = .ok ws ρ') (I : Inv κ Z S ρ σ) :
    ∃ ds S' Z', evs cl es σ S = .ok ds S' ∧ Inv κ Z' S' ρ' σ ∧ Stp κ (mutEs T es) σ Z Z' S S' ∧ VwL Z' S' ws ds ∧ (ws.length ≠ 1 → RepL Z' ws ds) ∧ ((∃ e w d, es = .cons e .nil ∧ ws = [w] ∧ ds = [d] ∧ Opd κ σ e S.length Z' S' w d) ∨ RepL Z' ws ds) := by
  have gen : okEs T κ es = true → ∃ ds S' Z', evs cl es σ S = .ok ds S' ∧ Inv κ Z' S' ρ' σ ∧ Stp κ (mutEs T es) σ Z Z' S S' ∧ VwL Z' S' ws ds ∧ (ws.length ≠ 1 → RepL Z' ws ds) ∧ ((∃ e w d, es = .cons e .nil ∧ ws = [w] ∧ ds = [d] ∧ Opd κ σ e S.length Z' S' w d) ∨ RepL Z' ws ds) := fun ok => by
    obtain ⟨ds, S1, Z1, e1, I1, s1, r1⟩ := h ρ ws ρ' Z S σ ok q I
    exact ⟨ds, S1, Z1, e1, I1, s1, r1.vw, fun _ => r1, .inr r1⟩
  cases es with
  | nil => exact gen (by simp only [okEs])
  | cons e es =>
    cases es with
    | cons e' es => simp only [okArg] at ok; exact gen (by simp only [okEs] at ok ⊢; exact ok)
    | nil =>
      simp only [okArg] at ok
      simp only [evsQ] at q
      obtain ⟨x, ρ1, q1, q⟩ := QR.bind_inv q
      cases q
      obtain ⟨d, S1, Z1, e1, I1, s1, r1⟩ := (h1 e rfl).opd ok q1 I
      exact ⟨[d], S1, Z1, by simp only [evs, e1, R.bind_ok], I1, by simp only [mutEs, List.append_nil]; exact s1, .cons r1.vw .nil, (fun z => absurd rfl z), .inl ⟨e, x, d, rfl, rfl, rfl, r1⟩⟩
theorem c_blt {f : B} {es : Es} (h1 : ∀ e, es = .cons e .nil → SndE T κ clq cl e) (h : SndEs T κ clq cl es) : SndE T κ clq cl (.blt f es) := fun c ρ w ρ' Z S σ hc q I => by
  simp only [clsE] at hc
  split at hc
  · rename_i ok
    cases hc
    simp only [evQ] at q
    obtain ⟨ws, ρ1, q1, q⟩ := QR.bind_inv q
    obtain ⟨qo, rfl⟩ := optQ_inv q
    obtain ⟨ds, S1, Z1, e1, I1, s1, v1, _⟩ := args h1 h ok q1 I
    obtain ⟨d, S2, e2, I2, s2, r2⟩ := new_res I1 (bi_vw I1.fz qo v1)
    exact ⟨d, S2, Z1, by simp only [ev, e1, R.bind_ok, e2], I2, (s1.trans s2).wk, Frs.weak r2 s1.grow⟩
  · cases hc
end
end Pq
set_option Elab.async false
set_option linter.all false
set_option maxRecDepth 100000
set_option maxHeartbeats 1000000
/-! methods, comprehensions, calls -/
namespace Pq
open PySem PySem.Spec PyProof.Rows L2 Pv
variable {T : QTbl} {κ : List Kd} {clq : QCl} {cl : Pv.Cl}
section
variable {M M' : List Nat} {σ : DEnv} {Z Z' Z2 : Fz} {S S' S2 : Store} {ρ ρ' : QEnv} {w : W} {d : D} {n : Nat} {e : E}
theorem set_self {j : Nat} {c : Cell} (h : S[j]? = some c) : S.set j c = S := by
  obtain ⟨h1, h2⟩ := List.getElem?_eq_some_iff.mp h
  rw [← h2]
  exact List.set_getElem_self h1
theorem Inv.write (I : Inv κ Z S ρ σ) {i j : Nat} {x' : W} {c' : Cell} (hk : kd κ i = .ow) (hs : σ[i]? = some (some (.ref j))) (hc : RepC Z x' c') : Inv κ Z (S.set j c') (ρ.set i (some x')) σ ∧ Stp κ [i] σ Z Z S (S.set j c') := by
  have zj := I.nz i j hk hs
  have lj : j < S.length := I.lt i j (by rw [hk]; decide) hs
  refine ⟨⟨by rw [List.length_set]; exact I.len, fun j' u h => ?_, fun i' u h => ?_, fun i' j' h1 h2 => ?_, I.dis, I.nz, fun i' d h1 h2 => ?_⟩, by simp, fun _ _ => rfl, fun j' h1 h2 => ?_⟩
  · obtain ⟨c, e1, e2⟩ := I.fz j' u h
    refine ⟨c, ?_, e2⟩
    rw [List.getElem?_set_ne (by rintro rfl; rw [zj] at h; cases h)]
    exact e1
  · by_cases q : i = i'
    · subst q
      have li : i < ρ.length := by rw [I.len]; exact (List.getElem?_eq_some_iff.mp hs).1
      rw [List.getElem?_set_self li] at h
      cases h
      refine ⟨_, hs, ?_⟩
      rw [hk]
      exact .inr ⟨j, c', rfl, Nat.zero_le _, zj, List.getElem?_set_self lj, hc⟩
    · rw [List.getElem?_set_ne q] at h
      obtain ⟨d, e1, e2⟩ := I.slot i' u h
      refine ⟨d, e1, ?_⟩
      revert e2
      cases hk' : kd κ i' with
      | sh => exact fun e2 => e2
      | ow =>
        rintro (e2 | ⟨j', c, rfl, e3, e4, e5, e6⟩)
        · exact .inl e2
        · refine .inr ⟨j', c, rfl, e3, e4, ?_, e6⟩
          rw [List.getElem?_set_ne (by rintro rfl; exact I.dis i i' j hk q (by rw [hk']; decide) hs e1)]
          exact e5
      | bo =>
        rintro (e2 | ⟨j', c, rfl, e5, e6⟩)
        · exact .inl e2
        · refine .inr ⟨j', c, rfl, ?_, e6⟩
          rw [List.getElem?_set_ne (by rintro rfl; exact I.dis i i' j hk q (by rw [hk']; decide) hs e1)]
          exact e5
  · rw [List.length_set]; exact I.lt i' j' h1 h2
  · by_cases q : i = i'
    · subst q
      exact ⟨x', List.getElem?_set_self (by rw [I.len]; exact (List.getElem?_eq_some_iff.mp hs).1)⟩
    · rw [List.getElem?_set_ne q]; exact I.full i' d h1 h2
  · rw [List.getElem?_set_ne (by rintro rfl; exact h2 i (by simp) hk hs)]
theorem Opd.same {j : Nat} (h : Opd κ σ e n Z S w (.ref j)) (I : Inv κ Z S ρ σ) (s : Stp κ M σ Z Z' S S') (lt : ∀ i j, kd κ i ≠ .sh → σ[i]? = some (some (.ref j)) → j < n) (ap : apart κ e M = true) : j < S.length ∧ ∀ i ∈ M, kd κ i = .ow → σ[i]? ≠ some (some (.ref j)) := by
  rcases h with h | h | ⟨i, rfl, hk, e1, h⟩
  · have : ∃ u, Z j = some u := by
      cases w <;> simp only [Rep] at h
      all_goals (first
        | (obtain ⟨j', e1, e2⟩ := h; cases e1; exact ⟨_, e2⟩)
        | (obtain ⟨ds, e1, _⟩ := h; cases e1)
        | cases h)
    obtain ⟨u, hu⟩ := this
    exact ⟨I.fz.lt hu, fun i _ ho q => by rw [I.nz i j ho q] at hu; cases hu⟩
  · rcases h with ⟨a, h⟩ | ⟨j', c, e1, h1, h2, h3, h4⟩
    · cases w <;> simp only [Rep, atomW] at h a <;> first | (cases h; done) | (cases a; done) | (obtain ⟨ds, e1, _⟩ := h; cases e1)
    · cases e1
      exact ⟨(List.getElem?_eq_some_iff.mp h3).1, fun i _ ho q => by have := lt i j (by rw [ho]; decide) q; omega⟩
  · refine ⟨I.lt i j hk e1, fun i' hi' ho q => ?_⟩
    simp only [apart, Bool.or_eq_true, decide_eq_true_eq] at ap
    rcases ap with ap | ap
    · exact hk ap
    · exact I.dis i' i j ho (by rintro rfl; exact ap hi') hk q e1
theorem mtOk_congr {m : Pv.M} {dx : D} (h : ∀ j, dx = .ref j → S'[j]? = S[j]?) : mtOk m dx S' = mtOk m dx S := by
  cases dx <;> first | rfl | (unfold mtOk; simp only [h _ rfl])
theorem mu_vw (f : FzOk Z S) {m : Pv.M} {x r x' : W} {ws : List W} {j : Nat} {c : Cell} {ds : List D} (e : muW m x ws = some (r, x')) (hj : S[j]? = some c) (hc : RepC Z x c) (h : VwL Z S ws ds) (h2 : exM m = false → RepL Z ws ds)
    (ne : exM m = true → ∀ q, ds ≠ [.ref q] ∨ j ≠ q) : mtOk m (.ref j) S = true ∧ ∃ d c', mi m (.ref j) ds S = .ok d (S.set j c') ∧ RepC Z x' c' ∧ Rep Z r d := by
  unfold muW at e
  split at e
  · split at e
    · rename_i hl
      cases e
      obtain ⟨es, rfl, q⟩ := repC_lst hc
      have := h2 rfl
      simp only [RepL] at this
      obtain ⟨dd, r, rfl, h3, rfl⟩ := this
      rw [← repL_len q] at hl
      exact ⟨by simp only [mtOk, hj], .non, .lst (es ++ [dd]), by simp only [Pv.mi, hj, if_pos hl], repL_app q (repL_one h3), by simp only [Rep]⟩
    · cases e
  · split at e
    · rename_i hl
      cases e
      obtain ⟨es, rfl, q⟩ := repC_lst hc
      obtain ⟨dd, rfl, hv⟩ := vwl_1 h
      obtain ⟨q', fs, rfl, g1, g⟩ := vw_lst f hv
      rw [← repL_len q, ← repL_len g] at hl
      have hne : j ≠ q' := (ne rfl q').elim (fun z => absurd rfl z) id
      exact ⟨by simp only [mtOk, hj], .non, .lst (es ++ fs), by simp only [Pv.mi, hj, g1]; rw [if_pos ⟨hl, hne⟩], repL_app q g, by simp only [Rep]⟩
    · cases e
  · rw [Option.map_eq_some_iff] at e
    obtain ⟨u, e1, e2⟩ := e
    cases e2
    obtain ⟨es, rfl, q⟩ := repC_lst hc
    cases h
    rw [← repL_len q] at e1
    obtain ⟨dd, g1, g2⟩ := repL_get q e1
    refine ⟨by simp only [mtOk, hj], dd, .lst es.dropLast, by simp only [Pv.mi, hj, g1], ?_, g2⟩
    show RepL Z _ _
    rw [List.dropLast_eq_take, List.dropLast_eq_take, repL_len q]
    exact repL_take _ q
  · rw [Option.bind_eq_some_iff] at e
    obtain ⟨k, ek, e⟩ := e
    rw [Option.map_eq_some_iff] at e
    obtain ⟨u, e1, e2⟩ := e
    cases e2
    obtain ⟨ks, rfl, q⟩ := repC_dic hc
    obtain ⟨dd, rfl, hv⟩ := vwl_1 h
    have g := repK_get k q
    rw [e1] at g
    obtain ⟨d1, g1, g2⟩ := g
    exact ⟨by simp only [mtOk, hj], d1, .dic false (ddrop ks k), by simp only [Pv.mi, hj, key_vw ek hv, g1], repK_drop k q, g2⟩
  · rw [Option.map_eq_some_iff] at e
    obtain ⟨k, ek, e⟩ := e
    obtain ⟨ks, rfl, q⟩ := repC_dic hc
    have hr := h2 rfl
    obtain ⟨dd, d2, rfl, hv, hv2⟩ := vwl_2 h
    simp only [RepL] at hr
    obtain ⟨_, _, z1, _, _, _, z2, r2, z3⟩ := hr
    cases z1; cases z2
    have g := repK_get k q
    split at e
    · rename_i u e1
      cases e
      rw [e1] at g
      obtain ⟨d1, g1, g2⟩ := g
      exact ⟨by simp only [mtOk, hj], d1, .dic false (ddrop ks k), by simp only [Pv.mi, hj, key_vw ek hv, g1], repK_drop k q, g2⟩
    · rename_i e1
      cases e
      rw [e1] at g
      refine ⟨by simp only [mtOk, hj], d2, .dic false ks, ?_, q, r2⟩
      simp only [Pv.mi, hj, key_vw ek hv, show dget ks k = none from g]
      rw [set_self hj]
  · cases e
theorem ite_some {α : Type} {p : Prop} [Decidable p] {a c : α} (h : (if p then some a else none) = some c) : p ∧ a = c := by
  split at h
  · rename_i hp; cases h; exact ⟨hp, rfl⟩
  · cases h
theorem c_mth {m : Pv.M} {a : E} {es : Es} (ha : SndE T κ clq cl a) (h1 : ∀ e, es = .cons e .nil → SndE T κ clq cl e) (h : SndEs T κ clq cl es) : SndE T κ clq cl (.mth m a es) := fun c ρ w ρ' Z S σ hc q I => by
  by_cases hm : muM m = true
  · cases a with
    | var i =>
        simp only [clsE, if_pos hm] at hc
        obtain ⟨ok, rfl⟩ := ite_some hc
        rw [Bool.and_eq_true, Bool.and_eq_true, decide_eq_true_eq, decide_eq_true_eq] at ok
        obtain ⟨⟨hk, oa⟩, hn⟩ := ok
        simp only [evQ, if_pos hm] at q
        obtain ⟨ws, ρ1, q1, q⟩ := QR.bind_inv q
        split at q
        · rename_i x ex
          split at q
          · rename_i r x' em
            cases q
            have go : ∃ ds S1 Z1, evs cl es σ S = .ok ds S1 ∧ Inv κ Z1 S1 ρ1 σ ∧ Stp κ (mutEs T es) σ Z Z1 S S1 ∧ VwL Z1 S1 ws ds ∧ (exM m = false → RepL Z1 ws ds) ∧ (exM m = true → ∀ q, ds = [.ref q] → σ[i]? ≠ some (some (.ref q))) := by
              by_cases hx : exM m = true
              · rw [if_pos hx, Bool.and_eq_true] at oa
                obtain ⟨ds, S1, Z1, e1, I1, s1, v1, v2, v3⟩ := args h1 h oa.1 q1 I
                refine ⟨ds, S1, Z1, e1, I1, s1, v1, (fun z => by rw [hx] at z; cases z), fun _ q' e2 e3 => ?_⟩
                subst e2
                rcases v3 with ⟨e, w', d', rfl, rfl, e4, v3⟩ | v3
                · cases e4
                  rcases v3 with v3 | v3 | ⟨i', rfl, hk', e5, _⟩
                  · cases w' <;> simp only [Rep] at v3
                    all_goals (first
                      | (obtain ⟨j', e6, e7⟩ := v3; cases e6; rw [I1.nz i _ hk e3] at e7; cases e7)
                      | (obtain ⟨ds, e6, _⟩ := v3; cases e6)
                      | cases v3)
                  · rcases v3 with ⟨a, v3⟩ | ⟨j', c, e6, e7, _⟩
                    · cases w' <;> simp only [Rep, atomW] at v3 a <;> first | (cases v3; done) | (cases a; done) | (obtain ⟨ds, e6, _⟩ := v3; cases e6)
                    · cases e6
                      have := I.lt i q' (by rw [hk]; decide) e3
                      omega
                  · have na := oa.2
                    simp only [notArg, decide_eq_true_eq] at na
                    exact I.dis i i' q' hk na hk' e3 e5
                · cases ws with
                  | nil => simp only [RepL] at v3; cases v3
                  | cons w' ws =>
                    simp only [RepL] at v3
                    obtain ⟨d', r', e4, v3, _⟩ := v3
                    cases e4
                    cases w' <;> simp only [Rep] at v3
                    all_goals (first
                      | (obtain ⟨j', e6, e7⟩ := v3; cases e6; rw [I1.nz i _ hk e3] at e7; cases e7)
                      | (obtain ⟨ds, e6, _⟩ := v3; cases e6)
                      | cases v3)
              · rw [if_neg hx] at oa
                obtain ⟨ds, S1, Z1, e1, I1, s1, v1⟩ := h ρ ws ρ1 Z S σ oa q1 I
                exact ⟨ds, S1, Z1, e1, I1, s1, v1.vw, fun _ => v1, fun z => absurd z hx⟩
            obtain ⟨ds, S1, Z1, e1, I1, s1, v1, v2, v3⟩ := go
            obtain ⟨dx, es1, ho⟩ := I1.slot i x ex
            rw [hk] at ho
            have hat : atomW x = false := by
              cases x <;> first | rfl | (cases m <;> simp [muW] at em)
            rcases ho with ⟨a, _⟩ | ⟨j, c, rfl, _, _, hj, hcl⟩
            · rw [hat] at a; cases a
            obtain ⟨mt, d, c', e2, g1, g2⟩ := mu_vw I1.fz em hj hcl v1 v2 fun z q' => by
              by_cases e5 : ds = [.ref q']
              · exact .inr fun e6 => v3 z q' e5 (by rw [← e6]; exact es1)
              · exact .inl e5
            obtain ⟨I2, s2⟩ := I1.write hk es1 g1
            have mt0 : mtOk m (.ref j) S = true := by
              rw [← mt]
              refine (mtOk_congr fun j' e5 => ?_).symm
              cases e5
              exact s1.same j (I.lt i j (by rw [hk]; decide) es1) fun i' hi' ho' q' => I.dis i i' j hk (by rintro rfl; exact hn hi') (by rw [ho']; decide) es1 q'
            refine ⟨d, _, Z1, ?_, I2, (s1.trans s2).weak fun i' hi' => ?_, g2⟩
            · simp only [ev, es1, R.bind_ok, mt0, if_true, e1, e2]
            · simp only [mutE, hm, if_true, List.mem_append, List.mem_singleton, List.not_mem_nil, false_or] at hi' ⊢
              exact hi'.elim .inr .inl
          · cases q
        · cases q
    | _ => simp only [clsE, if_pos hm] at hc; cases hc
  · simp only [clsE, if_neg hm] at hc
    · obtain ⟨ok, rfl⟩ := ite_some hc
      simp only [Bool.and_eq_true] at ok
      simp only [evQ, if_neg hm] at q
      obtain ⟨x, ρ1, q1, q⟩ := QR.bind_inv q
      obtain ⟨ws, ρ2, q2, q⟩ := QR.bind_inv q
      obtain ⟨qo, rfl⟩ := optQ_inv q
      obtain ⟨dx, S1, Z1, e1, I1, s1, r1⟩ := ha.opd ok.1.1 q1 I
      obtain ⟨ds, S2, Z2, e2, I2, s2, v1, v2, _⟩ := args h1 h ok.1.2 q2 I1
      have r2 := r1.later I1 s2 I.lt ok.2
      obtain ⟨mt, d, e3, r3⟩ := mi_vw I2.fz qo r2.vw v1 v2
      have mt1 : mtOk m dx S1 = true := by
        rw [← mt]
        refine (mtOk_congr fun j e5 => ?_).symm
        subst e5
        obtain ⟨h3, h4⟩ := r1.same I1 s2 I.lt ok.2
        exact s2.same j h3 h4
      refine ⟨d, S2, Z2, by simp only [ev, e1, R.bind_ok, mt1, if_true, e2, e3], I2, (s1.trans s2).weak fun i' hi' => ?_, r3⟩
      simp only [mutE, List.mem_append] at hi' ⊢
      exact .inr hi'
/-! ### comprehensions -/
theorem wipeQ_len (ρ : QEnv) : ∀ own : List Nat, (wipeQ ρ own).length = ρ.length
  | [] => rfl
  | v :: vs => by rw [wipeQ, List.length_set, wipeQ_len ρ vs]
theorem wipeQ_get (ρ : QEnv) (i : Nat) : ∀ own : List Nat, (wipeQ ρ own)[i]? = if i ∈ own ∧ i < ρ.length then some none else ρ[i]?
  | [] => by simp [wipeQ]
  | v :: vs => by
    rw [wipeQ, List.getElem?_set, wipeQ_get ρ i vs, wipeQ_len]
    by_cases h : v = i
    · subst h
      by_cases l : v < ρ.length
      · simp [l]
      · simp [l, List.getElem?_eq_none (Nat.le_of_not_lt l)]
    · by_cases g : i ∈ vs <;> simp [h, g, Ne.symm h]
theorem wipeE_len (ρ : DEnv) : ∀ own : List Nat, (wipeE ρ own).length = ρ.length
  | [] => rfl
  | v :: vs => by rw [wipeE, List.length_set, wipeE_len ρ vs]
theorem wipeE_get (ρ : DEnv) (i : Nat) : ∀ own : List Nat, (wipeE ρ own)[i]? = if i ∈ own ∧ i < ρ.length then some none else ρ[i]?
  | [] => by simp [wipeE]
  | v :: vs => by
    rw [wipeE, List.getElem?_set, wipeE_get ρ i vs, wipeE_len]
    by_cases h : v = i
    · subst h
      by_cases l : v < ρ.length
      · simp [l]
      · simp [l, List.getElem?_eq_none (Nat.le_of_not_lt l)]
    · by_cases g : i ∈ vs <;> simp [h, g, Ne.symm h]
theorem backQ_len (ρ0 ρ : QEnv) : ∀ own : List Nat, (backQ ρ0 ρ own).length = ρ.length
  | [] => rfl
  | v :: vs => by rw [backQ, List.length_set, backQ_len ρ0 ρ vs]
theorem backQ_get (ρ0 ρ : QEnv) (i : Nat) : ∀ own : List Nat, (backQ ρ0 ρ own)[i]? = if i ∈ own ∧ i < ρ.length then some ((ρ0[i]?).getD none) else ρ[i]?
  | [] => by simp [backQ]
  | v :: vs => by
    rw [backQ, List.getElem?_set, backQ_get ρ0 ρ i vs, backQ_len]
    by_cases h : v = i
    · subst h
      by_cases l : v < ρ.length
      · simp [l]
      · simp [l, List.getElem?_eq_none (Nat.le_of_not_lt l)]
    · by_cases g : i ∈ vs <;> simp [h, g, Ne.symm h]
/-- shared slots may be anything that is told rightly -/
theorem Inv.env (I : Inv κ Z S ρ σ) {ρ2 : QEnv} {σ2 : DEnv} (hl : ρ2.length = σ2.length) (hs : ∀ i w, kd κ i = .sh → ρ2[i]? = some (some w) → ∃ d, σ2[i]? = some (some d) ∧ Rep Z w d) (ho : ∀ i, kd κ i ≠ .sh → ρ2[i]? = ρ[i]? ∧ σ2[i]? = σ[i]?) : Inv κ Z S ρ2 σ2 := by
  refine ⟨hl, I.fz, fun i w h => ?_, fun i j h1 h2 => I.lt i j h1 (by rw [← (ho i h1).2]; exact h2), fun i i' j h1 h2 h3 h4 => ?_, fun i j h1 h2 => I.nz i j h1 ?_, fun i d h1 h2 => ?_⟩
  · by_cases hk : kd κ i = .sh
    · obtain ⟨d, e1, e2⟩ := hs i w hk h
      exact ⟨d, e1, by rw [hk]; exact e2⟩
    · obtain ⟨h1, h2⟩ := ho i hk
      rw [h1] at h
      obtain ⟨d, e1, e2⟩ := I.slot i w h
      exact ⟨d, by rw [h2]; exact e1, e2⟩
  · have h5 : kd κ i ≠ .sh := by rw [h1]; decide
    rw [(ho i h5).2] at h4
    rw [(ho i' h3).2]
    exact I.dis i i' j h1 h2 h3 h4
  · rw [← (ho i (by rw [h1]; decide)).2]; exact h2
  · obtain ⟨a, b⟩ := ho i (by rw [h1]; decide)
    rw [a]; rw [b] at h2; exact I.full i d h1 h2
theorem Inv.wipe (I : Inv κ Z S ρ σ) {own : List Nat} (ho : ∀ i ∈ own, kd κ i = .sh) : Inv κ Z S (wipeQ ρ own) σ := by
  refine I.env (by rw [wipeQ_len]; exact I.len) (fun i w hk h => ?_) fun i hk => ⟨?_, rfl⟩
  · rw [wipeQ_get] at h
    split at h
    · cases h
    · obtain ⟨d, e1, e2⟩ := I.slot i w h
      rw [hk] at e2
      exact ⟨d, e1, e2⟩
  · rw [wipeQ_get, if_neg fun z => hk (ho i z.1)]
theorem fold_len {α : Type} : ∀ (ps : List (Nat × α)) (ρ : List (Option α)), (ps.foldl (fun ρ p => ρ.set p.1 (some p.2)) ρ).length = ρ.length
  | [], _ => rfl
  | p :: ps, ρ => by rw [List.foldl_cons, fold_len ps, List.length_set]
theorem fold_other {α : Type} {i : Nat} : ∀ (ps : List (Nat × α)) (ρ : List (Option α)), (∀ p ∈ ps, p.1 ≠ i) → (ps.foldl (fun ρ p => ρ.set p.1 (some p.2)) ρ)[i]? = ρ[i]?
  | [], _, _ => rfl
  | p :: ps, ρ, h => by
    rw [List.foldl_cons, fold_other ps _ fun q hq => h q (List.mem_cons_of_mem _ hq), List.getElem?_set_ne (h p (by simp))]
theorem fold_rep {Z : Fz} : ∀ (is : List Nat) (ws : List W) (ds : List D) (ρ : QEnv) (σ : DEnv), RepL Z ws ds → ρ.length = σ.length → ∀ i, i ∈ is.take ws.length → ∀ w, ((is.zip ws).foldl (fun ρ p => ρ.set p.1 (some p.2)) ρ)[i]? = some (some w) → ∃ d, ((is.zip ds).foldl (fun σ p => σ.set p.1 (some p.2)) σ)[i]? = some (some d) ∧ Rep Z w d
  | [], _, _, _, _, _, _, _, hi, _, _ => by simp at hi
  | k :: is, [], _, _, _, _, _, _, hi, _, _ => by simp at hi
  | k :: is, u :: ws, ds, ρ, σ, h, hl, i, hi, w, e => by
    simp only [RepL] at h
    obtain ⟨d, r, rfl, h1, h2⟩ := h
    simp only [List.zip_cons_cons, List.foldl_cons] at e ⊢
    by_cases hm : i ∈ is.take ws.length
    · exact fold_rep is ws r (ρ.set k (some u)) (σ.set k (some d)) h2 (by rw [List.length_set, List.length_set]; exact hl) i hm w e
    · have hk : i = k := by
        rw [List.length_cons, List.take_succ_cons] at hi
        rcases List.mem_cons.mp hi with hi | hi
        · exact hi
        · exact absurd hi hm
      subst hk
      have no1 : ∀ p ∈ is.zip ws, p.1 ≠ i := fun p hp z => hm (by
        obtain ⟨j, hj, e⟩ := List.getElem_of_mem hp
        rw [List.getElem_zip] at e
        rw [← z, ← e]
        rw [List.length_zip] at hj
        exact List.mem_take_iff_getElem.mpr ⟨j, by omega, rfl⟩)
      have no2 : ∀ p ∈ is.zip r, p.1 ≠ i := fun p hp z => hm (by
        obtain ⟨j, hj, e⟩ := List.getElem_of_mem hp
        rw [List.getElem_zip] at e
        rw [← z, ← e]
        rw [List.length_zip, repL_len h2] at hj
        exact List.mem_take_iff_getElem.mpr ⟨j, by omega, rfl⟩)
      rw [fold_other _ _ no1] at e
      rw [fold_other _ _ no2]
      rw [List.getElem?_set] at e ⊢
      rw [← hl]
      by_cases hlt : i < ρ.length
      · simp only [hlt, if_true] at e ⊢
        cases e
        exact ⟨d, rfl, h1⟩
      · simp [hlt] at e
/-- a target takes what it is told -/
theorem bind_rep {t : Tg} {ρ2 : QEnv} (I : Inv κ Z S ρ σ) (hr : Rep Z w d) (hb : bindQ t w ρ = some ρ2) (ht : ∀ i ∈ tgSl t, kd κ i = .sh) : ∃ σ2, bindT t d σ = some σ2 ∧ Inv κ Z S ρ2 σ2 ∧ (∀ i, i ∉ tgSl t → σ2[i]? = σ[i]?) ∧ σ2.length = σ.length := by
  cases t with
  | nm i =>
    simp only [bindQ] at hb
    split at hb
    · rename_i hi
      cases hb
      have hk := ht i (by simp [tgSl])
      have hi2 : i < σ.length := by rw [← I.len]; exact hi
      refine ⟨σ.set i (some d), by simp only [bindT, if_pos hi2], I.env (by rw [List.length_set, List.length_set]; exact I.len) (fun i' u hk' h => ?_) (fun i' hk' => ?_), fun i' h => ?_, ?_⟩
      · by_cases q : i = i'
        · subst q
          rw [List.getElem?_set_self hi] at h
          cases h
          exact ⟨d, List.getElem?_set_self hi2, hr⟩
        · rw [List.getElem?_set_ne q] at h ⊢
          obtain ⟨d', e1, e2⟩ := I.slot i' u h
          rw [hk'] at e2
          exact ⟨d', e1, e2⟩
      · have q : i ≠ i' := by rintro rfl; exact hk' hk
        exact ⟨List.getElem?_set_ne q, List.getElem?_set_ne q⟩
      · exact List.getElem?_set_ne (by rintro rfl; exact h (by simp [tgSl]))
      · rw [List.length_set]
    · cases hb
  | tp is =>
    simp only [bindQ] at hb
    split at hb
    · rename_i ws
      split at hb
      · rename_i hi
        cases hb
        simp only [Rep] at hr
        obtain ⟨ds, rfl, hr⟩ := hr
        have hl : ds.length = is.length := by rw [repL_len hr]; exact hi.1
        have hc : ds.length = is.length ∧ ∀ i ∈ is, i < σ.length := ⟨hl, fun i h => by rw [← I.len]; exact hi.2 i h⟩
        have mem : ∀ {α : Type} {xs : List α} {p : Nat × α}, p ∈ is.zip xs → p.1 ∈ is := fun {α xs p} h => (List.of_mem_zip (a := p.1) (b := p.2) h).1
        refine ⟨(is.zip ds).foldl (fun ρ p => ρ.set p.1 (some p.2)) σ, by simp only [bindT, if_pos hc], I.env (by rw [fold_len, fold_len]; exact I.len) (fun i' u hk' h => ?_) (fun i' hk' => ?_), fun i' h => ?_, ?_⟩
        · by_cases q : i' ∈ is
          · exact fold_rep is ws ds ρ σ hr I.len i' (by rw [hi.1, List.take_length]; exact q) u h
          · have n1 : ∀ p ∈ is.zip ws, p.1 ≠ i' := fun p hp z => q (z ▸ mem hp)
            have n2 : ∀ p ∈ is.zip ds, p.1 ≠ i' := fun p hp z => q (z ▸ mem hp)
            rw [fold_other _ _ n1] at h
            rw [fold_other _ _ n2]
            obtain ⟨d', e1, e2⟩ := I.slot i' u h
            rw [hk'] at e2
            exact ⟨d', e1, e2⟩
        · have n : i' ∉ is := fun z => hk' (ht i' z)
          exact ⟨fold_other _ _ fun p hp z => n (z ▸ mem hp), fold_other _ _ fun p hp z => n (z ▸ mem hp)⟩
        · exact fold_other _ _ fun p hp z => h (z ▸ mem hp)
        · rw [fold_len]
      · cases hb
    · cases hb
theorem iter_vw (f : FzOk Z S) {ik : IK} {ws xs : List W} {ds : List D} (e : iterQ ik ws = some xs) (h : VwL Z S ws ds) : ∃ ys g, iter ik ds S = some (ys, g) ∧ RepL Z xs ys ∧ stands g ys S ∧ (∀ r, g = some r → ds = [.ref r]) := by
  unfold iterQ at e
  split at e
  · cases e
    obtain ⟨d, rfl, v⟩ := vwl_1 h
    obtain ⟨es, rfl, q⟩ := vw_tup v
    exact ⟨es, none, rfl, q, True.intro, fun _ z => by cases z⟩
  · cases e
    obtain ⟨d, rfl, v⟩ := vwl_1 h
    obtain ⟨es, rfl, q⟩ := vw_fzl v
    exact ⟨es, none, rfl, q, True.intro, fun _ z => by cases z⟩
  · cases e
    obtain ⟨d, rfl, v⟩ := vwl_1 h
    obtain ⟨j, es, rfl, e1, q⟩ := vw_lst f v
    exact ⟨es, some j, by simp only [iter, e1], q, e1, fun _ z => by cases z; rfl⟩
  · cases e
    obtain ⟨d, rfl, v⟩ := vwl_1 h
    rw [vw_str v]
    exact ⟨_, none, rfl, repL_map (fun a => by simp only [wsign, sign, Rep]) _, True.intro, fun _ z => by cases z⟩
  · split at e
    · rename_i hc
      cases e
      obtain ⟨d, rfl, v⟩ := vwl_1 h
      rw [vw_int v]
      exact ⟨_, none, by simp only [iter, if_pos hc] <;> exact rfl, repL_map (fun a => by simp only [Rep]) _, True.intro, fun _ z => by cases z⟩
    · cases e
  · split at e
    · rename_i hc
      cases e
      obtain ⟨d, d2, rfl, v, v2⟩ := vwl_2 h
      rw [vw_int v, vw_int v2]
      exact ⟨_, none, by simp only [iter, if_pos hc] <;> exact rfl, repL_map (fun a => by simp only [Rep]) _, True.intro, fun _ z => by cases z⟩
    · cases e
  · split at e
    · rename_i hc
      cases e
      obtain ⟨d, rfl, v⟩ := vwl_1 h
      rw [vw_str v]
      exact ⟨_, none, by simp only [iter, if_pos hc] <;> exact rfl, repL_rev (repL_map (fun a => by simp only [wsign, sign, Rep]) _), True.intro, fun _ z => by cases z⟩
    · cases e
  · cases e
end
end Pq
set_option Elab.async false
set_option linter.all false
set_option maxRecDepth 100000
set_option maxHeartbeats 1000000
/-! comprehensions, calls; every expression -/
namespace Pq
open PySem PySem.Spec PyProof.Rows L2 Pv
variable {T : QTbl} {κ : List Kd} {clq : QCl} {cl : Pv.Cl}
section
variable {M M' : List Nat} {σ : DEnv} {Z Z' Z2 : Fz} {S S' S2 : Store} {ρ ρ' : QEnv} {w : W} {d : D} {n : Nat} {e : E}
def OptR (Z : Fz) : Option W → Option D → Prop
  | none, none => True
  | some w, some d => Rep Z w d
  | _, _ => False
theorem lc_go {fq : W → QEnv → QR (Option W)} {fp : D → Store → R (Option D)} {own : List Nat} {g : Option Nat} {all : List D}
    (step : ∀ w d ρ Z S o ρ', Rep Z w d → Inv κ Z S (wipeQ ρ own) σ → fq w ρ = .ok o ρ' → ∃ o' S' Z', fp d S = .ok o' S' ∧ Inv κ Z' S' (wipeQ ρ' own) σ ∧ Stp κ M σ Z Z' S S' ∧ OptR Z' o o')
    (gs : ∀ r, g = some r → ∀ i ∈ M, kd κ i = .ow → σ[i]? ≠ some (some (.ref r))) : ∀ xs ds ρ ws ρ' Z S, RepL Z xs ds → lcQ fq xs ρ = .ok ws ρ' → Inv κ Z S (wipeQ ρ own) σ → stands g all S →
      ∃ ys S' Z', lcGo fp g all ds S = .ok ys S' ∧ Inv κ Z' S' (wipeQ ρ' own) σ ∧ Stp κ M σ Z Z' S S' ∧ RepL Z' ws ys
  | [], ds, ρ, ws, ρ', Z, S, h, q, I, st => by
    simp only [RepL] at h
    subst h
    simp only [lcQ] at q
    cases q
    exact ⟨[], S, Z, by unfold lcGo; rw [if_pos st], I, Stp.refl, by simp only [RepL]⟩
  | x :: xs, ds, ρ, ws, ρ', Z, S, h, q, I, st => by
    simp only [RepL] at h
    obtain ⟨d, r, rfl, h1, h2⟩ := h
    simp only [lcQ] at q
    obtain ⟨o, ρ1, q1, q⟩ := QR.bind_inv q
    obtain ⟨us, ρ2, q2, q⟩ := QR.bind_inv q
    cases q
    obtain ⟨o', S1, Z1, e1, I1, s1, r1⟩ := step x d ρ Z S o ρ1 h1 I q1
    have st1 : stands g all S1 := by
      cases g with
      | none => exact True.intro
      | some r =>
        show S1[r]? = _
        rw [s1.same r (List.getElem?_eq_some_iff.mp st).1 (gs r rfl)]
        exact st
    obtain ⟨ys, S2, Z2, e2, I2, s2, r2⟩ := lc_go step gs xs r ρ1 us _ Z1 S1 (RepL.mono (s1.mono I.fz) _ _ h2) q2 I1 st1
    have m2 := s2.mono I1.fz
    refine ⟨_, S2, Z2, by unfold lcGo; rw [if_pos st, e1, R.bind_ok, e2, R.bind_ok], I2, (s1.trans s2).weak fun i hi => (List.mem_append.mp hi).elim id id, ?_⟩
    cases o with
    | none => cases o' with
      | none => exact r2
      | some _ => exact r1.elim
    | some u => cases o' with
      | none => exact r1.elim
      | some _ => exact repL_cons (Rep.mono m2 _ _ r1) r2
theorem Opd.fixed {j : Nat} {es : Es} {ws : List W} (h : (∃ e w d, es = .cons e .nil ∧ ws = [w] ∧ [.ref j] = [d] ∧ Opd κ σ e n Z S w d) ∨ RepL Z ws [.ref j]) (I : Inv κ Z S ρ σ) (lt : ∀ i j, kd κ i ≠ .sh → σ[i]? = some (some (.ref j)) → j < n) (ap : apartS κ es M = true) : ∀ i ∈ M, kd κ i = .ow → σ[i]? ≠ some (some (.ref j)) := by
  have go : ∀ e w, Opd κ σ e n Z S w (.ref j) → apart κ e M = true → ∀ i ∈ M, kd κ i = .ow → σ[i]? ≠ some (some (.ref j)) := fun e w h ap => (h.same I (Stp.refl (M := M)) lt ap).2
  rcases h with ⟨e, w, d, rfl, rfl, e1, h⟩ | h
  · cases e1
    refine go e w h ?_
    cases e <;> first | rfl | exact ap
  · cases ws with
    | nil => simp only [RepL] at h; cases h
    | cons w ws =>
      simp only [RepL] at h
      obtain ⟨d, r, e1, h, _⟩ := h
      cases e1
      exact go (.cst .non) w (.inl h) rfl
theorem c_lc {elt : E} {tg : Tg} {ik : IK} {es : Es} {cd : Op} {own : List Nat} (he : SndE T κ clq cl elt) (h1 : ∀ e, es = .cons e .nil → SndE T κ clq cl e) (h : SndEs T κ clq cl es) (hc' : ∀ c, cd = .so c → SndE T κ clq cl c) : SndE T κ clq cl (.lc elt tg ik es cd own) := fun c ρ w ρ' Z S σ hc q I => by
  simp only [clsE] at hc
  obtain ⟨ok, rfl⟩ := ite_some hc
  simp only [Bool.and_eq_true, List.all_eq_true, decide_eq_true_eq] at ok
  obtain ⟨⟨⟨⟨⟨o1, o2⟩, o3⟩, o4⟩, o5⟩, o6⟩ := ok
  simp only [evQ] at q
  obtain ⟨ds, ρ1, q1, q⟩ := QR.bind_inv q
  split at q
  · cases q
  · rename_i xs ex
    obtain ⟨ys, ρ2, q2, q⟩ := QR.bind_inv q
    split at q
    · rename_i hl
      cases q
      obtain ⟨es', S1, Z1, e1, I1, s1, v1, _, v3⟩ := args h1 h o1 q1 I
      obtain ⟨xs', g, e2, r2, st, hg⟩ := iter_vw I1.fz ex v1
      have q3 : ∀ {r : QR (List W)} {a : List W} {ρ : QEnv}, r.noex = .ok a ρ → r = .ok a ρ := fun {r a ρ} h => by
        cases r <;> first | exact h | cases h
      have q2' := q3 q2
      have back : ∀ {Z2 : Fz} {S2 : Store} {ρb : QEnv} {σb : DEnv}, σb.length = σ.length → (∀ i, i ∉ own → σb[i]? = σ[i]?) → Inv κ Z2 S2 ρb σb → Inv κ Z2 S2 (wipeQ ρb own) σ := fun {Z2 S2 ρb σb} hl2 hb J => by
        refine J.env (by rw [wipeQ_len, J.len, hl2]) (fun i u hk e => ?_) fun i hk => ⟨?_, (hb i fun z => hk (o4 i z)).symm⟩
        · rw [wipeQ_get] at e
          split at e
          · cases e
          · rename_i hn
            obtain ⟨d, e3, e4⟩ := J.slot i u e
            rw [hk] at e4
            refine ⟨d, ?_, e4⟩
            rw [← hb i fun z => hn ⟨z, by rw [J.len]; exact (List.getElem?_eq_some_iff.mp e3).1⟩]
            exact e3
        · rw [wipeQ_get, if_neg fun z => hk (o4 i z.1)]
      have gs : ∀ r, g = some r → ∀ i ∈ mutE T elt ++ mutO T cd, kd κ i = .ow → σ[i]? ≠ some (some (.ref r)) := fun r hr => by
        have := hg r hr
        subst this
        exact Opd.fixed v3 I1 I.lt o6
      refine Exists.elim (lc_go (κ := κ) (M := mutE T elt ++ mutO T cd) (fp := fun d S2 => match bindT tg d (wipeE σ own) with
        | none => .no
        | some ρ' => match (generalizing := false) cd with
          | .no => (ev cl elt ρ' S2).bind fun y S3 => .ok (some y) S3
          | .so c => (ev cl c ρ' S2).bind fun t S3 => isB t S3 fun b => if b = true then (ev cl elt ρ' S3).bind fun y S4 => .ok (some y) S4 else .ok none S3) (all := xs') (fun w d ρ Z S o ρ' hr J hq => ?_) gs xs xs' ρ1 ys ρ2 Z1 S1 r2 q2' (I1.wipe o4) st) fun us ⟨S2, Z2, e3, I2, s2, r3⟩ => ?_
      · -- one turn
        have Iw : Inv κ Z S (wipeQ ρ own) (wipeE σ own) := by
          refine J.env (by rw [J.len, wipeE_len]) (fun i u hk e => ?_) fun i hk => ⟨rfl, by rw [wipeE_get, if_neg fun z => hk (o4 i z.1)]⟩
          obtain ⟨d, e4, e5⟩ := J.slot i u e
          rw [hk] at e5
          refine ⟨d, ?_, e5⟩
          rw [wipeQ_get] at e
          split at e
          · cases e
          · rename_i hn
            rw [wipeE_get, if_neg fun z => hn ⟨z.1, by rw [← wipeQ_len ρ own, J.len]; exact z.2⟩]
            exact e4
        split at hq
        · cases hq
        · rename_i ρb eb
          obtain ⟨σb, eb2, Jb, hob, hlb⟩ := bind_rep Iw hr eb fun i hi => o4 i (o5 i hi)
          have hb : ∀ i, i ∉ own → σb[i]? = σ[i]? := fun i hi => by
            rw [hob i fun z => hi (o5 i z), wipeE_get, if_neg fun z => hi z.1]
          have hl2 : σb.length = σ.length := by rw [hlb, wipeE_len]
          have stp : ∀ {M : List Nat} {Z Z' : Fz} {S S' : Store}, Stp κ M σb Z Z' S S' → Stp κ M σ Z Z' S S' := fun {M Z Z' S S'} s => ⟨s.grow, s.zo, fun j hj hi => s.same j hj fun i hm ho => by
            rw [hb i fun z => by rw [o4 i z] at ho; cases ho]
            exact hi i hm ho⟩
          simp only [eb2]
          cases cd with
          | no =>
            simp only at hq ⊢
            obtain ⟨y, ρ3, q4, hq⟩ := QR.bind_inv hq
            cases hq
            obtain ⟨dy, S3, Z3, e4, I3, s3, r4⟩ := he.sh o2 q4 Jb
            exact ⟨some dy, S3, Z3, by rw [e4, R.bind_ok], back hl2 hb I3, (stp s3).weak fun i hi => List.mem_append_left _ hi, r4⟩
          | so c =>
            simp only at hq ⊢
            obtain ⟨t, ρ3, q4, hq⟩ := QR.bind_inv hq
            obtain ⟨k, rfl, hq'⟩ := isBQ_inv hq
            obtain ⟨dt, S3, Z3, e4, I3, s3, r4⟩ := (hc' c rfl).sh (by simpa only [okC] using o3) q4 Jb
            simp only [Rep] at r4
            subst r4
            rw [e4, R.bind_ok]
            simp only [isB]
            cases k with
            | false =>
              simp only [Bool.false_eq_true, if_false] at hq' ⊢
              cases hq'
              exact ⟨none, S3, Z3, rfl, back hl2 hb I3, (stp s3).weak fun i hi => List.mem_append_right _ hi, True.intro⟩
            | true =>
              simp only [if_true] at hq' ⊢
              obtain ⟨y, ρ4, q5, hq'⟩ := QR.bind_inv hq'
              cases hq'
              obtain ⟨dy, S4, Z4, e5, I4, s4, r5⟩ := he.sh o2 q5 I3
              exact ⟨some dy, S4, Z4, by rw [e5, R.bind_ok], back hl2 hb I4, (stp (s3.trans s4)).weak fun i hi => (List.mem_append.mp hi).elim (fun z => List.mem_append_right _ z) fun z => List.mem_append_left _ z, r5⟩
      · have J2 : Inv κ Z2 S2 (backQ ρ1 ρ2 own) σ := by
          refine I2.env (by rw [backQ_len, ← wipeQ_len ρ2 own]; exact I2.len) (fun i u hk e => ?_) fun i hk => ⟨?_, rfl⟩
          · rw [backQ_get] at e
            split at e
            · have e' : ρ1[i]? = some (some u) := by
                cases z : ρ1[i]? with
                | none => rw [z] at e; cases e
                | some y => rw [z] at e; exact e
              obtain ⟨d, e4, e5⟩ := I1.slot i u e'
              rw [hk] at e5
              exact ⟨d, e4, Rep.mono (s2.mono I1.fz) _ _ e5⟩
            · rename_i hn
              obtain ⟨d, e4, e5⟩ := I2.slot i u (by rw [wipeQ_get, if_neg hn]; exact e)
              rw [hk] at e5
              exact ⟨d, e4, e5⟩
          · rw [backQ_get, wipeQ_get, if_neg fun z => hk (o4 i z.1), if_neg fun z => hk (o4 i z.1)]
        obtain ⟨d, S3, e4, I3, s3, r4⟩ := new_res J2 (NewR.cell (w := .lst ys) (c := .lst us) rfl r3)
        rw [← repL_len r2] at hl
        exact ⟨d, S3, Z2, by simp only [ev, e1, R.bind_ok, e2]; exact (congrArg (fun r => R.bind (R.noex r) (fun ys S2 => if xs'.length ≤ sizeLine then Pv.alloc (.lst ys) S2 else R.no)) e3).trans (by simp only [noex_ok, R.bind_ok, if_pos hl, e4]), I3, ((s1.trans s2).trans s3).wk, Frs.weak r4 (s1.trans s2).grow⟩
    · cases q
/-! ### calls -/
inductive ArgF (κ : List Kd) (σ : DEnv) (Z : Fz) (S : Store) : Nat → List Kd → Es → List (Nat ⊕ W) → List D → Prop where
  | nil {n : Nat} {ks : List Kd} : ArgF κ σ Z S n ks .nil [] []
  | ow {n n' : Nat} {ks : List Kd} {i : Nat} {es : Es} {as : List (Nat ⊕ W)} {d : D} {ds : List D} : kd κ i = .ow → σ[i]? = some (some d) → n ≤ n' → ArgF κ σ Z S n' ks es as ds → ArgF κ σ Z S n (.ow :: ks) (.cons (.var i) es) (.inl i :: as) (d :: ds)
  | fr {n n' : Nat} {ks : List Kd} {e : E} {es : Es} {as : List (Nat ⊕ W)} {w : W} {d : D} {ds : List D} : Frs n Z S w d → (∀ j, d = .ref j → j < n') → n ≤ n' → (∀ i, e ≠ .var i) → ArgF κ σ Z S n' ks es as ds → ArgF κ σ Z S n (.ow :: ks) (.cons e es) (.inr w :: as) (d :: ds)
  | bo {n n' : Nat} {ks : List Kd} {e : E} {es : Es} {as : List (Nat ⊕ W)} {w : W} {d : D} {ds : List D} : Opd κ σ e n Z S w d → (∀ j, d = .ref j → j < n') → n ≤ n' → ArgF κ σ Z S n' ks es as ds → ArgF κ σ Z S n (.bo :: ks) (.cons e es) (.inr w :: as) (d :: ds)
  | sh {n n' : Nat} {ks : List Kd} {e : E} {es : Es} {as : List (Nat ⊕ W)} {w : W} {d : D} {ds : List D} : Rep Z w d → n ≤ n' → ArgF κ σ Z S n' ks es as ds → ArgF κ σ Z S n (.sh :: ks) (.cons e es) (.inr w :: as) (d :: ds)
def SndA (T : QTbl) (κ : List Kd) (clq : QCl) (cl : Pv.Cl) (es : Es) : Prop := ∀ (kds : List Kd) (as : List (Nat ⊕ W)) (ρ ρ' : QEnv) (Z : Fz) (S : Store) (σ : DEnv) (M : List Nat), okA T κ kds es = true → (∀ i ∈ boS κ kds es, i ∉ M) → (∀ i ∈ mutEs T es, i ∈ M) → evA clq T kds es ρ = .ok as ρ' → Inv κ Z S ρ σ →
  ∃ ds S' Z', evs cl es σ S = .ok ds S' ∧ Inv κ Z' S' ρ' σ ∧ Stp κ (mutEs T es) σ Z Z' S S' ∧ ArgF κ σ Z' S' S.length kds es as ds
theorem vw_lt (f : FzOk Z S) {j : Nat} (h : Vw Z S w (.ref j)) : j < S.length := by
  rcases h with h | ⟨j', c, e, h1, _⟩
  · cases w <;> simp only [Rep] at h
    all_goals (first
      | (obtain ⟨j', e1, e2⟩ := h; cases e1; exact f.lt e2)
      | (obtain ⟨ds, e1, _⟩ := h; cases e1)
      | cases h)
  · cases e; exact (List.getElem?_eq_some_iff.mp h1).1
theorem a_nil : SndA T κ clq cl .nil := fun kds as ρ ρ' Z S σ M ok hb hm q I => by
  simp only [evA] at q
  cases q
  exact ⟨[], S, Z, rfl, I, Stp.refl, .nil⟩
theorem boS_cons {k : Kd} {ks : List Kd} {e : E} {es : Es} {i : Nat} (h : i ∈ boS κ ks es) : i ∈ boS κ (k :: ks) (.cons e es) := by
  cases e <;> simp only [boS] <;> first | exact h | (split <;> first | exact List.mem_cons_of_mem _ h | exact h)
theorem a_cons {es : Es} (he : SndE T κ clq cl e) (hs : SndA T κ clq cl es) : SndA T κ clq cl (.cons e es) := fun kds as ρ ρ' Z S σ M ok hb hm q I => by
  cases kds with
  | nil => simp only [okA] at ok; cases ok
  | cons k ks =>
    simp only [evA] at q
    obtain ⟨x, ρ1, q1, q⟩ := QR.bind_inv q
    obtain ⟨xs, ρ2, q2, q⟩ := QR.bind_inv q
    cases q
    unfold okA at ok
    rw [Bool.and_eq_true] at ok
    obtain ⟨ok1, ok2⟩ := ok
    have hb2 : ∀ i ∈ boS κ ks es, i ∉ M := fun i hi => hb i (boS_cons hi)
    have hm2 : ∀ i ∈ mutEs T es, i ∈ M := fun i hi => hm i (by simp only [mutEs, List.mem_append]; exact .inr hi)
    have rest : ∀ {d S1 Z1}, ev cl e σ S = .ok d S1 → Inv κ Z1 S1 ρ1 σ → Stp κ (mutE T e) σ Z Z1 S S1 → (∀ S2 Z2 ds, Inv κ Z2 S2 ρ' σ → Stp κ (mutEs T es) σ Z1 Z2 S1 S2 → ArgF κ σ Z2 S2 S1.length ks es xs ds → ArgF κ σ Z2 S2 S.length (k :: ks) (.cons e es) (argOf k e x :: xs) (d :: ds)) →
        ∃ ds S' Z', evs cl (.cons e es) σ S = .ok ds S' ∧ Inv κ Z' S' ρ' σ ∧ Stp κ (mutEs T (.cons e es)) σ Z Z' S S' ∧ ArgF κ σ Z' S' S.length (k :: ks) (.cons e es) (argOf k e x :: xs) ds := fun {d S1 Z1} e1 I1 s1 f => by
      obtain ⟨ds, S2, Z2, e2, I2, s2, a2⟩ := hs ks xs ρ1 ρ' Z1 S1 σ M ok2 hb2 hm2 q2 I1
      exact ⟨d :: ds, S2, Z2, by simp only [evs, e1, e2, R.bind_ok], I2, s1.trans s2, f S2 Z2 ds I2 s2 a2⟩
    by_cases hv : ∃ i, e = .var i
    · obtain ⟨i, rfl⟩ := hv
      have qv := q1
      simp only [evQ] at qv
      split at qv
      · rename_i u eu
        cases qv
        obtain ⟨d, e1, e2⟩ := I.slot i x eu
        have ee : ev cl (.var i) σ S = .ok d S := by simp only [ev, e1]
        refine rest ee I Stp.refl fun S2 Z2 ds I2 s2 a2 => ?_
        cases k with
        | sh =>
          have hk : kd κ i = .sh := by
            simp only [clsE] at ok1
            split at ok1
            · assumption
            · cases ok1
          rw [hk] at e2
          exact .sh (Rep.mono (s2.mono I.fz) _ _ e2) (Nat.le_refl _) a2
        | bo =>
          have o : Opd κ σ (.var i) S.length Z S x d := by
            by_cases hk : kd κ i = .sh
            · rw [hk] at e2; exact .inl e2
            · exact .inr (.inr ⟨i, rfl, hk, e1, e2.vw⟩)
          refine .bo (o.later I s2 I.lt ?_) (fun j z => ?_) (Nat.le_refl _) a2
          · simp only [apart, Bool.or_eq_true, decide_eq_true_eq]
            by_cases hk : kd κ i = .sh
            · exact .inl hk
            · exact .inr fun z => hb i (by simp only [boS]; rw [if_pos ⟨trivial, hk⟩]; simp) (hm2 i z)
          · subst z; exact vw_lt I.fz e2.vw
        | ow =>
          simp only [decide_eq_true_eq] at ok1
          exact .ow ok1 e1 (Nat.le_refl _) a2
      · cases qv
    · have hne : ∀ i, e ≠ .var i := fun i z => hv ⟨i, z⟩
      have ha : argOf k e x = .inr x := by cases e <;> first | rfl | exact absurd rfl (hne _)
      have hvv : isV e = false := by cases e <;> first | rfl | exact absurd rfl (hne _)
      rw [ha] at rest ⊢
      cases k with
      | sh =>
        obtain ⟨d, S1, Z1, e1, I1, s1, r1⟩ := he.sh ok1 q1 I
        exact rest e1 I1 s1 fun S2 Z2 ds I2 s2 a2 => .sh (Rep.mono (s2.mono I1.fz) _ _ r1) s1.grow a2
      | bo =>
        obtain ⟨d, S1, Z1, e1, I1, s1, r1⟩ := he.opd ok1 q1 I
        refine rest e1 I1 s1 fun S2 Z2 ds I2 s2 a2 => .bo (r1.later I1 s2 I.lt ?_) (fun j z => ?_) s1.grow a2
        · cases e <;> first | rfl | exact absurd rfl (hne _)
        · subst z; exact vw_lt I1.fz r1.vw
      | ow =>
        have hc : clsE T κ e = some true := by
          cases e <;> first | exact absurd rfl (hne _) | (simpa using ok1)
        obtain ⟨d, S1, Z1, e1, I1, s1, r1⟩ := he true ρ x ρ1 Z S σ hc q1 I
        refine rest e1 I1 s1 fun S2 Z2 ds I2 s2 a2 => .fr (Frs.later r1 I1.fz s2 I.lt) (fun j z => ?_) s1.grow hne a2
        subst z; exact vw_lt I1.fz (Frs.vw r1)
end
end Pq
set_option Elab.async false
set_option linter.all false
set_option maxRecDepth 100000
set_option maxHeartbeats 1000000
/-! calls; every expression -/
namespace Pq
open PySem PySem.Spec PyProof.Rows L2 Pv
variable {T : QTbl} {κ : List Kd} {clq : QCl} {cl : Pv.Cl}
section
variable {M M' : List Nat} {σ : DEnv} {Z Z' Z2 : Fz} {S S' S2 : Store} {ρ ρ' : QEnv} {w : W} {d : D} {n : Nat} {e : E}
theorem rep_ref {j : Nat} (h : Rep Z w (.ref j)) : atomW w = false ∧ ∃ u, Z j = some u := by
  cases w <;> simp only [Rep] at h
  all_goals (first
    | (obtain ⟨j', e1, e2⟩ := h; cases e1; exact ⟨rfl, _, e2⟩)
    | (obtain ⟨ds, e1, _⟩ := h; cases e1)
    | cases h)
theorem kd_zero {k : Kd} {ks : List Kd} : kd (k :: ks) 0 = k := rfl
theorem kd_succ {k : Kd} {ks : List Kd} {p : Nat} : kd (k :: ks) (p + 1) = kd ks p := by simp only [kd, List.getElem?_cons_succ]
/-- an owned argument -/
theorem ArgF.inl {kds : List Kd} {es : Es} {as : List (Nat ⊕ W)} {ds : List D} (h : ArgF κ σ Z S n kds es as ds) : ∀ p i, as[p]? = some (.inl i) → kd kds p = .ow ∧ kd κ i = .ow ∧ i ∈ owS kds es ∧ ∃ d, ds[p]? = some d ∧ σ[i]? = some (some d) := by
  induction h with
  | nil => intro p i h; simp at h
  | ow h1 h2 h3 h4 ih =>
    intro p i h
    cases p with
    | zero => simp at h; subst h; exact ⟨rfl, h1, by simp [owS], _, rfl, h2⟩
    | succ p =>
      rw [List.getElem?_cons_succ] at h
      obtain ⟨a, b, c, d, e1, e2⟩ := ih p i h
      exact ⟨by rw [kd_succ]; exact a, b, by simp [owS, c], d, by rw [List.getElem?_cons_succ]; exact e1, e2⟩
  | @fr n n' ks e es as w d ds h1 h2 h3 h5 h4 ih =>
    intro p i h
    cases p with
    | zero => simp at h
    | succ p =>
      rw [List.getElem?_cons_succ] at h
      obtain ⟨a, b, c, d, e1, e2⟩ := ih p i h
      exact ⟨by rw [kd_succ]; exact a, b, by cases e <;> first | exact absurd rfl (h5 _) | exact c, d, by rw [List.getElem?_cons_succ]; exact e1, e2⟩
  | @bo n n' ks e es as w d ds h1 h2 h3 h4 ih =>
    intro p i h
    cases p with
    | zero => simp at h
    | succ p =>
      rw [List.getElem?_cons_succ] at h
      obtain ⟨a, b, c, d, e1, e2⟩ := ih p i h
      exact ⟨by rw [kd_succ]; exact a, b, by cases e <;> simp [owS, c], d, by rw [List.getElem?_cons_succ]; exact e1, e2⟩
  | @sh n n' ks e es as w d ds h1 h3 h4 ih =>
    intro p i h
    cases p with
    | zero => simp at h
    | succ p =>
      rw [List.getElem?_cons_succ] at h
      obtain ⟨a, b, c, d, e1, e2⟩ := ih p i h
      exact ⟨by rw [kd_succ]; exact a, b, by cases e <;> simp [owS, c], d, by rw [List.getElem?_cons_succ]; exact e1, e2⟩
/-- where an owned cell comes from -/
theorem ArgF.own {kds : List Kd} {es : Es} {as : List (Nat ⊕ W)} {ds : List D} (h : ArgF κ σ Z S n kds es as ds) : ∀ p j, kd kds p = .ow → ds[p]? = some (.ref j) → (∃ i, as[p]? = some (.inl i) ∧ σ[i]? = some (some (.ref j))) ∨ (n ≤ j ∧ Z j = none) := by
  induction h with
  | nil => intro p i h g; simp at g
  | ow h1 h2 h3 h4 ih =>
    intro p j hk h
    cases p with
    | zero => simp at h; subst h; exact .inl ⟨_, rfl, h2⟩
    | succ p =>
      rw [List.getElem?_cons_succ] at h
      rw [kd_succ] at hk
      rcases ih p j hk h with ⟨i, a, b⟩ | ⟨a, b⟩
      · exact .inl ⟨i, by rw [List.getElem?_cons_succ]; exact a, b⟩
      · exact .inr ⟨Nat.le_trans h3 a, b⟩
  | fr h1 h2 h3 h5 h4 ih =>
    intro p j hk h
    cases p with
    | zero =>
      simp at h; subst h
      rcases h1 with ⟨a, h1⟩ | ⟨j', c, e, g1, g2, _⟩
      · rw [(rep_ref h1).1] at a; cases a
      · cases e; exact .inr ⟨g1, g2⟩
    | succ p =>
      rw [List.getElem?_cons_succ] at h
      rw [kd_succ] at hk
      rcases ih p j hk h with ⟨i, a, b⟩ | ⟨a, b⟩
      · exact .inl ⟨i, by rw [List.getElem?_cons_succ]; exact a, b⟩
      · exact .inr ⟨Nat.le_trans h3 a, b⟩
  | bo h1 h2 h3 h4 ih =>
    intro p j hk h
    cases p with
    | zero => rw [kd_zero] at hk; cases hk
    | succ p =>
      rw [List.getElem?_cons_succ] at h
      rw [kd_succ] at hk
      rcases ih p j hk h with ⟨i, a, b⟩ | ⟨a, b⟩
      · exact .inl ⟨i, by rw [List.getElem?_cons_succ]; exact a, b⟩
      · exact .inr ⟨Nat.le_trans h3 a, b⟩
  | sh h1 h3 h4 ih =>
    intro p j hk h
    cases p with
    | zero => rw [kd_zero] at hk; cases hk
    | succ p =>
      rw [List.getElem?_cons_succ] at h
      rw [kd_succ] at hk
      rcases ih p j hk h with ⟨i, a, b⟩ | ⟨a, b⟩
      · exact .inl ⟨i, by rw [List.getElem?_cons_succ]; exact a, b⟩
      · exact .inr ⟨Nat.le_trans h3 a, b⟩
theorem ArgF.le {kds : List Kd} {es : Es} {as : List (Nat ⊕ W)} {ds : List D} {m : Nat} (h : ArgF κ σ Z S n kds es as ds) : True := trivial
/-- what an argument that may be anything comes from -/
theorem ArgF.bor {kds : List Kd} {es : Es} {as : List (Nat ⊕ W)} {ds : List D} (h : ArgF κ σ Z S n kds es as ds) : ∀ p j, kd kds p = .bo → ds[p]? = some (.ref j) → (∃ i, i ∈ boS κ kds es ∧ kd κ i ≠ .sh ∧ σ[i]? = some (some (.ref j))) ∨ n ≤ j ∨ Z j ≠ none := by
  have up : ∀ {k : Kd} {ks : List Kd} {e : E} {es : Es} {n n' j : Nat}, n ≤ n' → ((∃ i, i ∈ boS κ ks es ∧ kd κ i ≠ .sh ∧ σ[i]? = some (some (.ref j))) ∨ n' ≤ j ∨ Z j ≠ none) → ((∃ i, i ∈ boS κ (k :: ks) (.cons e es) ∧ kd κ i ≠ .sh ∧ σ[i]? = some (some (.ref j))) ∨ n ≤ j ∨ Z j ≠ none) := fun {k ks e es n n' j} l h => by
    rcases h with ⟨i, a, b, c⟩ | h | h
    · exact .inl ⟨i, boS_cons a, b, c⟩
    · exact .inr (.inl (Nat.le_trans l h))
    · exact .inr (.inr h)
  induction h with
  | nil => intro p i h g; simp at g
  | ow h1 h2 h3 h4 ih =>
    intro p j hk h
    cases p with
    | zero => rw [kd_zero] at hk; cases hk
    | succ p =>
      rw [List.getElem?_cons_succ] at h
      rw [kd_succ] at hk
      exact up h3 (ih p j hk h)
  | fr h1 h2 h3 h5 h4 ih =>
    intro p j hk h
    cases p with
    | zero => rw [kd_zero] at hk; cases hk
    | succ p =>
      rw [List.getElem?_cons_succ] at h
      rw [kd_succ] at hk
      exact up h3 (ih p j hk h)
  | bo h1 h2 h3 h4 ih =>
    intro p j hk h
    cases p with
    | zero =>
      simp at h; subst h
      rcases h1 with h1 | h1 | ⟨i, rfl, hk', e1, _⟩
      · obtain ⟨_, u, hu⟩ := rep_ref h1
        exact .inr (.inr (by rw [hu]; simp))
      · rcases h1 with ⟨a, h1⟩ | ⟨j', c, e, g1, g2, _⟩
        · rw [(rep_ref h1).1] at a; cases a
        · cases e; exact .inr (.inl g1)
      · exact .inl ⟨i, by simp only [boS]; rw [if_pos ⟨trivial, hk'⟩]; simp, hk', e1⟩
    | succ p =>
      rw [List.getElem?_cons_succ] at h
      rw [kd_succ] at hk
      exact up h3 (ih p j hk h)
  | sh h1 h3 h4 ih =>
    intro p j hk h
    cases p with
    | zero => rw [kd_zero] at hk; cases hk
    | succ p =>
      rw [List.getElem?_cons_succ] at h
      rw [kd_succ] at hk
      exact up h3 (ih p j hk h)
theorem getAs_cons {a : Nat ⊕ W} {as : List (Nat ⊕ W)} {ws : List W} (h : getAs ρ (a :: as) = some ws) : ∃ u us, ws = u :: us ∧ getAs ρ as = some us ∧ (match a with | .inl i => ρ[i]? = some (some u) | .inr w => u = w) := by
  cases a with
  | inl i =>
    simp only [getAs] at h
    split at h
    · rename_i u us h1 h2
      cases h
      exact ⟨u, us, rfl, h2, h1⟩
    · cases h
  | inr w =>
    simp only [getAs, Option.map_eq_some_iff] at h
    obtain ⟨us, h1, rfl⟩ := h
    exact ⟨w, us, rfl, h1, rfl⟩
/-- every argument lies as its slot wants it -/
theorem ArgF.slots {kds : List Kd} {es : Es} {as : List (Nat ⊕ W)} {ds : List D} (I : Inv κ Z S ρ σ) (h : ArgF κ σ Z S n kds es as ds) : ∀ ws, getAs ρ as = some ws → ws.length = ds.length ∧ ∀ p w, ws[p]? = some w → ∃ d, ds[p]? = some d ∧ SlotR (kd kds p) Z S w d := by
  have go : ∀ {k : Kd} {ks : List Kd} {u : W} {us : List W} {d : D} {ds : List D}, SlotR k Z S u d → (us.length = ds.length ∧ ∀ p w, us[p]? = some w → ∃ d, ds[p]? = some d ∧ SlotR (kd ks p) Z S w d) → ((u :: us).length = (d :: ds).length ∧ ∀ p w, (u :: us)[p]? = some w → ∃ d', (d :: ds)[p]? = some d' ∧ SlotR (kd (k :: ks) p) Z S w d') := fun {k ks u us d ds} h1 h2 => by
    refine ⟨by rw [List.length_cons, List.length_cons, h2.1], fun p w e => ?_⟩
    cases p with
    | zero => simp at e; subst e; exact ⟨d, rfl, h1⟩
    | succ p => rw [List.getElem?_cons_succ] at e; rw [List.getElem?_cons_succ, kd_succ]; exact h2.2 p w e
  induction h with
  | nil => intro ws e; simp only [getAs] at e; cases e; exact ⟨rfl, fun p w h => by simp at h⟩
  | ow h1 h2 h3 h4 ih =>
    intro ws e
    obtain ⟨u, us, rfl, e1, e2⟩ := getAs_cons e
    obtain ⟨d, e3, e4⟩ := I.slot _ _ e2
    rw [h2] at e3
    cases e3
    rw [h1] at e4
    exact go e4 (ih us e1)
  | fr h1 h2 h3 h5 h4 ih =>
    intro ws e
    obtain ⟨u, us, rfl, e1, e2⟩ := getAs_cons e
    have e2' : u = _ := e2
    subst e2'
    exact go (Frs.weak h1 (Nat.zero_le _)) (ih us e1)
  | bo h1 h2 h3 h4 ih =>
    intro ws e
    obtain ⟨u, us, rfl, e1, e2⟩ := getAs_cons e
    have e2' : u = _ := e2
    subst e2'
    exact go (k := .bo) h1.vw (ih us e1)
  | sh h1 h3 h4 ih =>
    intro ws e
    obtain ⟨u, us, rfl, e1, e2⟩ := getAs_cons e
    have e2' : u = _ := e2
    subst e2'
    exact go (k := .sh) h1 (ih us e1)
theorem owS_cons {k : Kd} {ks : List Kd} {e : E} {es : Es} {i : Nat} (h : i ∈ owS ks es) : i ∈ owS (k :: ks) (.cons e es) := by
  cases e <;> simp only [owS] <;> first | exact h | (split <;> first | exact List.mem_cons_of_mem _ h | exact h)
/-- no owned argument is another one, too -/
theorem ArgF.dis {kds : List Kd} {es : Es} {as : List (Nat ⊕ W)} {ds : List D} (I : Inv κ Z S ρ σ) (h : ArgF κ σ Z S n kds es as ds) : (owS kds es).Nodup → (∀ i ∈ boS κ kds es, i ∉ owS kds es) → (∀ i j, kd κ i ≠ .sh → σ[i]? = some (some (.ref j)) → j < n) →
    ∀ p p' j, kd kds p = .ow → p ≠ p' → kd kds p' ≠ .sh → ds[p]? = some (.ref j) → ds[p']? ≠ some (.ref j) := by
  induction h with
  | nil => intro _ _ _ p p' j _ _ _ h; simp at h
  | @ow n n' ks i es as d ds h1 h2 h3 h4 ih =>
    intro nd hb lt p p' j hk hp hk' e e'
    have nd' : (i :: owS ks es).Nodup := by simpa [owS] using nd
    rw [List.nodup_cons] at nd'
    have hb' : ∀ i' ∈ boS κ ks es, i' ≠ i ∧ i' ∉ owS ks es := fun i' hi' => by
      have := hb i' (boS_cons hi')
      simp only [owS, if_true, List.mem_cons, not_or] at this
      exact this
    have lt' : ∀ i j, kd κ i ≠ .sh → σ[i]? = some (some (.ref j)) → j < n' := fun a b c f => Nat.lt_of_lt_of_le (lt a b c f) h3
    -- the head against the rest
    have key : ∀ q, d = .ref j → kd ks q ≠ .sh → ds[q]? = some (.ref j) → False := fun q e1 hq e2 => by
      subst e1
      have ho : kd κ i ≠ .sh := by rw [h1]; decide
      have hz := I.nz i j h1 h2
      have hl := lt i j ho h2
      cases hkq : kd ks q with
      | sh => exact hq hkq
      | ow =>
        rcases h4.own q j hkq e2 with ⟨i', a, b⟩ | ⟨a, b⟩
        · obtain ⟨_, c, f, _⟩ := h4.inl q i' a
          exact I.dis i i' j h1 (by rintro rfl; exact nd'.1 f) (by rw [c]; decide) h2 b
        · omega
      | bo =>
        rcases h4.bor q j hkq e2 with ⟨i', a, b, c⟩ | a | a
        · exact I.dis i i' j h1 (Ne.symm (hb' i' a).1) b h2 c
        · omega
        · exact a hz
    cases p with
    | zero =>
      cases p' with
      | zero => exact hp rfl
      | succ q' => exact key q' (by simpa using e) (by rw [kd_succ] at hk'; exact hk') (by simpa using e')
    | succ q =>
      cases p' with
      | zero => exact key q (by simpa using e') (by rw [kd_succ] at hk; rw [hk]; decide) (by simpa using e)
      | succ q' =>
        rw [kd_succ] at hk hk'
        rw [List.getElem?_cons_succ] at e e'
        exact ih nd'.2 (fun a b => (hb' a b).2) lt' q q' j hk (by omega) hk' e e'
  | @fr n n' ks e0 es as w d ds h1 h2 h3 h5 h4 ih =>
    intro nd hb lt p p' j hk hp hk' e e'
    have eo : owS (.ow :: ks) (.cons e0 es) = owS ks es := by cases e0 <;> first | exact absurd rfl (h5 _) | rfl
    rw [eo] at nd hb
    have hb' : ∀ i' ∈ boS κ ks es, i' ∉ owS ks es := fun i' hi' => hb i' (boS_cons hi')
    have lt' : ∀ i j, kd κ i ≠ .sh → σ[i]? = some (some (.ref j)) → j < n' := fun a b c f => Nat.lt_of_lt_of_le (lt a b c f) h3
    have key : ∀ q, d = .ref j → kd ks q ≠ .sh → ds[q]? = some (.ref j) → False := fun q e1 hq e2 => by
      subst e1
      have hl := h2 j rfl
      rcases h1 with ⟨a, h1⟩ | ⟨j', c, e, g1, g2, _⟩
      · rw [(rep_ref h1).1] at a; cases a
      cases e
      cases hkq : kd ks q with
      | sh => exact hq hkq
      | ow =>
        rcases h4.own q j hkq e2 with ⟨i', a, b⟩ | ⟨a, b⟩
        · obtain ⟨_, c, f, _⟩ := h4.inl q i' a
          have := lt i' j (by rw [c]; decide) b
          omega
        · omega
      | bo =>
        rcases h4.bor q j hkq e2 with ⟨i', a, b, c⟩ | a | a
        · have := lt i' j b c
          omega
        · omega
        · exact a g2
    cases p with
    | zero =>
      cases p' with
      | zero => exact hp rfl
      | succ q' => exact key q' (by simpa using e) (by rw [kd_succ] at hk'; exact hk') (by simpa using e')
    | succ q =>
      cases p' with
      | zero => exact key q (by simpa using e') (by rw [kd_succ] at hk; rw [hk]; decide) (by simpa using e)
      | succ q' =>
        rw [kd_succ] at hk hk'
        rw [List.getElem?_cons_succ] at e e'
        exact ih nd hb' lt' q q' j hk (by omega) hk' e e'
  | @bo n n' ks e0 es as w d ds h1 h2 h3 h4 ih =>
    intro nd hb lt p p' j hk hp hk' e e'
    have eo : owS (.bo :: ks) (.cons e0 es) = owS ks es := by cases e0 <;> simp [owS]
    rw [eo] at nd hb
    have hb' : ∀ i' ∈ boS κ ks es, i' ∉ owS ks es := fun i' hi' => hb i' (boS_cons hi')
    have lt' : ∀ i j, kd κ i ≠ .sh → σ[i]? = some (some (.ref j)) → j < n' := fun a b c f => Nat.lt_of_lt_of_le (lt a b c f) h3
    have key : ∀ q, d = .ref j → kd ks q = .ow → ds[q]? = some (.ref j) → False := fun q e1 hkq e2 => by
      have hl := h2 j e1
      have ha : ArgF κ σ Z S n (.bo :: ks) (.cons e0 es) (.inr w :: as) (d :: ds) := .bo h1 h2 h3 h4
      have hbo := ha.bor 0 j rfl (by subst e1; rfl)
      rcases h4.own q j hkq e2 with ⟨i', a, b⟩ | ⟨a, b⟩
      · obtain ⟨_, c, f, _⟩ := h4.inl q i' a
        rcases hbo with ⟨i, a2, b2, c2⟩ | a2 | a2
        · exact I.dis i' i j c (by rintro rfl; exact hb i' a2 f) b2 b c2
        · have := lt i' j (by rw [c]; decide) b
          omega
        · exact a2 (I.nz i' j c b)
      · omega
    cases p with
    | zero => rw [kd_zero] at hk; cases hk
    | succ q =>
      cases p' with
      | zero => exact key q (by simpa using e') (by rw [kd_succ] at hk; exact hk) (by simpa using e)
      | succ q' =>
        rw [kd_succ] at hk hk'
        rw [List.getElem?_cons_succ] at e e'
        exact ih nd hb' lt' q q' j hk (by omega) hk' e e'
  | @sh n n' ks e0 es as w d ds h1 h3 h4 ih =>
    intro nd hb lt p p' j hk hp hk' e e'
    have eo : owS (.sh :: ks) (.cons e0 es) = owS ks es := by cases e0 <;> simp [owS]
    rw [eo] at nd hb
    have hb' : ∀ i' ∈ boS κ ks es, i' ∉ owS ks es := fun i' hi' => hb i' (boS_cons hi')
    have lt' : ∀ i j, kd κ i ≠ .sh → σ[i]? = some (some (.ref j)) → j < n' := fun a b c f => Nat.lt_of_lt_of_le (lt a b c f) h3
    cases p with
    | zero => rw [kd_zero] at hk; cases hk
    | succ q =>
      cases p' with
      | zero => rw [kd_zero] at hk'; exact hk' rfl
      | succ q' =>
        rw [kd_succ] at hk hk'
        rw [List.getElem?_cons_succ] at e e'
        exact ih nd hb' lt' q q' j hk (by omega) hk' e e'
theorem map_some_get {α : Type} {xs : List α} {p : Nat} {x : α} (h : (xs.map some)[p]? = some (some x)) : xs[p]? = some x := by
  rw [List.getElem?_map, Option.map_eq_some_iff] at h
  obtain ⟨y, h1, h2⟩ := h
  cases h2; exact h1
theorem ArgF.inv {kds : List Kd} {es : Es} {as : List (Nat ⊕ W)} {ds : List D} {ws : List W} (I : Inv κ Z S ρ σ) (h : ArgF κ σ Z S n kds es as ds) (nd : (owS kds es).Nodup) (hb : ∀ i ∈ boS κ kds es, i ∉ owS kds es) (lt : ∀ i j, kd κ i ≠ .sh → σ[i]? = some (some (.ref j)) → j < n) (hg : getAs ρ as = some ws) :
    Inv kds Z S (ws.map some) (ds.map some) := by
  obtain ⟨hl, hs⟩ := h.slots I ws hg
  have cell : ∀ p j, kd kds p ≠ .sh → ds[p]? = some (.ref j) → j < S.length := fun p j hk e => by
    have hp : p < ws.length := by rw [hl]; exact (List.getElem?_eq_some_iff.mp e).1
    obtain ⟨d, e1, e2⟩ := hs p _ (List.getElem?_eq_getElem hp)
    rw [e] at e1
    cases e1
    exact vw_lt I.fz e2.vw
  refine ⟨by rw [List.length_map, List.length_map, hl], I.fz, fun p w e => ?_, fun p j hk e => cell p j hk (map_some_get e), fun p p' j h1 h2 h3 h4 h5 => h.dis I nd hb lt p p' j h1 h2 h3 (map_some_get h4) (map_some_get h5), fun p j hk e => ?_, fun p d hk e => ?_⟩
  · obtain ⟨d, e1, e2⟩ := hs p w (map_some_get e)
    exact ⟨d, by rw [List.getElem?_map, e1]; rfl, e2⟩
  · rcases h.own p j hk (map_some_get e) with ⟨i, a, b⟩ | ⟨_, b⟩
    · exact I.nz i j (h.inl p i a).2.1 b
    · exact b
  · have hp : p < ws.length := by rw [hl]; exact (List.getElem?_eq_some_iff.mp (map_some_get e)).1
    exact ⟨ws[p], by rw [List.getElem?_map, List.getElem?_eq_getElem hp]; rfl⟩
theorem putAs_len : ∀ (as : List (Nat ⊕ W)) (os : QEnv), (putAs ρ as os).length = ρ.length
  | [], os => by cases os <;> rfl
  | Sum.inl i :: r, [] => rfl
  | Sum.inr w :: r, [] => rfl
  | Sum.inl i :: r, o :: os => by simp only [putAs, List.length_set, putAs_len r os]
  | Sum.inr i :: r, o :: os => by simp only [putAs, putAs_len r os]
theorem putAs_get : ∀ (as : List (Nat ⊕ W)) (os : QEnv), (∀ (p i : Nat), as[p]? = some (Sum.inl i) → ∃ w', os[p]? = some (some w')) → ∀ (i : Nat) (u : W), (putAs ρ as os)[i]? = some (some u) → (∃ p : Nat, as[p]? = some (Sum.inl i) ∧ os[p]? = some (some u)) ∨ ((∀ p : Nat, as[p]? ≠ some (Sum.inl i)) ∧ ρ[i]? = some (some u))
  | [], os, _, i, u, e => by
    have : putAs ρ [] os = ρ := by cases os <;> rfl
    rw [this] at e
    exact .inr ⟨fun p => by simp, e⟩
  | .inl k :: r, [], h, i, u, e => by
    obtain ⟨w', h⟩ := h 0 k rfl
    simp at h
  | .inr w :: r, [], h, i, u, e => by
    refine .inr ⟨fun p z => ?_, e⟩
    obtain ⟨w', h⟩ := h p i z
    simp at h
  | .inl k :: r, o :: os, h, i, u, e => by
    simp only [putAs] at e
    have ih := putAs_get r os (fun p i z => by have := h (p + 1) i (by rw [List.getElem?_cons_succ]; exact z); rwa [List.getElem?_cons_succ] at this) i u
    by_cases q : k = i
    · subst q
      rw [List.getElem?_set] at e
      simp only [if_true] at e
      split at e
      · exact .inl ⟨0, rfl, by simpa using e⟩
      · cases e
    · rw [List.getElem?_set_ne q] at e
      rcases ih e with ⟨p, a, b⟩ | ⟨a, b⟩
      · exact .inl ⟨p + 1, by rw [List.getElem?_cons_succ]; exact a, by rw [List.getElem?_cons_succ]; exact b⟩
      · refine .inr ⟨fun p z => ?_, b⟩
        cases p with
        | zero => simp at z; exact q z
        | succ p => rw [List.getElem?_cons_succ] at z; exact a p z
  | .inr w :: r, o :: os, h, i, u, e => by
    simp only [putAs] at e
    have ih := putAs_get r os (fun p i z => by have := h (p + 1) i (by rw [List.getElem?_cons_succ]; exact z); rwa [List.getElem?_cons_succ] at this) i u
    rcases ih e with ⟨p, a, b⟩ | ⟨a, b⟩
    · exact .inl ⟨p + 1, by rw [List.getElem?_cons_succ]; exact a, by rw [List.getElem?_cons_succ]; exact b⟩
    · refine .inr ⟨fun p z => ?_, b⟩
      cases p with
      | zero => simp at z
      | succ p => rw [List.getElem?_cons_succ] at z; exact a p z
theorem putAs_some : ∀ (as : List (Nat ⊕ W)) (os : QEnv), (∀ (p i : Nat), as[p]? = some (Sum.inl i) → ∃ w', os[p]? = some (some w')) → ∀ (i : Nat), (∃ u, ρ[i]? = some (some u)) → ∃ u, (putAs ρ as os)[i]? = some (some u)
  | [], os, _, i, e => by
    have : putAs ρ [] os = ρ := by cases os <;> rfl
    rw [this]; exact e
  | Sum.inl k :: r, [], h, i, e => e
  | Sum.inr w :: r, [], h, i, e => e
  | Sum.inl k :: r, o :: os, h, i, e => by
    simp only [putAs]
    have ih := putAs_some r os (fun p i z => by have := h (p + 1) i (by rw [List.getElem?_cons_succ]; exact z); rwa [List.getElem?_cons_succ] at this) i e
    by_cases q : k = i
    · subst q
      obtain ⟨w', h⟩ := h 0 k rfl
      obtain ⟨u, hu⟩ := ih
      refine ⟨w', ?_⟩
      rw [List.getElem?_set_self (List.getElem?_eq_some_iff.mp hu).1]
      simpa using h
    · rw [List.getElem?_set_ne q]; exact ih
  | Sum.inr w :: r, o :: os, h, i, e => by
    simp only [putAs]
    exact putAs_some r os (fun p i z => by have := h (p + 1) i (by rw [List.getElem?_cons_succ]; exact z); rwa [List.getElem?_cons_succ] at this) i e
theorem c_cal {f : Str} {es : Es} (CO : ClOk T clq cl) (ha : SndA T κ clq cl es) : SndE T κ clq cl (.cal f es) := fun c ρ w ρ' Z S σ hc q I => by
  cases hl : T.lookup f with
  | none => simp only [clsE, hl] at hc; cases hc
  | some fn =>
    simp only [clsE, hl] at hc
    obtain ⟨ok, rfl⟩ := ite_some hc
    simp only [Bool.and_eq_true, decide_eq_true_eq, List.all_eq_true] at ok
    obtain ⟨⟨o1, nd⟩, o3⟩ := ok
    simp only [evQ, hl] at q
    obtain ⟨as, ρ1, q1, q⟩ := QR.bind_inv q
    split at q
    · cases q
    · rename_i ws hg
      unfold QR.back at q
      split at q
      · rename_i w1 os ec
        cases q
        obtain ⟨ds, S1, Z1, e1, I1, s1, af⟩ := ha fn.kd as ρ ρ1 Z S σ (mutEs T es) o1 (fun i hi z => o3 i hi (List.mem_append_right _ z)) (fun i hi => hi) q1 I
        have IA := af.inv I1 nd (fun i hi z => o3 i hi (List.mem_append_left _ z)) I.lt hg
        obtain ⟨d, S2, Z2, e2, fz2, gr, zo, same, ow, res⟩ := CO f fn ws _ os hl ec Z1 S1 ds IA
        have m : Mono Z1 Z2 := fun j u h => by rw [zo j (I1.fz.lt h)]; exact h
        have hin : ∀ (p i : Nat), as[p]? = some (Sum.inl i) → ∃ w', os[p]? = some (some w') := fun p i z => by
          obtain ⟨a, _, _, d', b, _⟩ := af.inl p i z
          obtain ⟨w', e3, _⟩ := ow p d' a b
          exact ⟨w', e3⟩
        -- a cell that is no owned argument stays
        have stay : ∀ j, j < S1.length → (∀ (p i : Nat), as[p]? = some (Sum.inl i) → σ[i]? ≠ some (some (D.ref j))) → j < S.length → S2[j]? = S1[j]? := fun j hj hn hj0 => same j hj fun p hk z => by
          rcases af.own p j hk z with ⟨i, a, b⟩ | ⟨a, _⟩
          · exact hn p i a b
          · omega
        refine ⟨d, S2, Z2, by simp only [ev, e1, R.bind_ok, e2], ⟨by rw [putAs_len]; exact I1.len, fz2, fun i u e => ?_, fun i j hk e => Nat.lt_of_lt_of_le (I1.lt i j hk e) gr, I1.dis, fun i j hk e => by rw [zo j (I1.lt i j (by rw [hk]; decide) e)]; exact I1.nz i j hk e, fun i d' hk e => putAs_some as os hin i (I1.full i d' hk e)⟩, ⟨Nat.le_trans s1.grow gr, fun j hj => by rw [zo j (Nat.lt_of_lt_of_le hj s1.grow), s1.zo j hj], fun j hj hn => ?_⟩, res.weak s1.grow⟩
        · rcases putAs_get as os hin i u e with ⟨p, a, b⟩ | ⟨a, b⟩
          · obtain ⟨k1, k2, _, d', e3, e4⟩ := af.inl p i a
            obtain ⟨w', e5, e6⟩ := ow p d' k1 e3
            rw [b] at e5
            cases e5
            exact ⟨d', e4, by rw [k2]; exact e6⟩
          · obtain ⟨d', e3, e4⟩ := I1.slot i u b
            refine ⟨d', e3, ?_⟩
            have st : ∀ j, kd κ i ≠ .sh → d' = .ref j → S2[j]? = S1[j]? := fun j hk z => by
              subst z
              refine stay j (I1.lt i j hk e3) (fun p i' h1 h2 => ?_) (I.lt i j hk e3)
              have := (af.inl p i' h1).2.1
              exact I1.dis i' i j this (by rintro rfl; exact a p h1) hk h2 e3
            revert e4
            cases hk : kd κ i with
            | sh => exact fun e4 => Rep.mono m _ _ e4
            | ow =>
              rintro (⟨a1, e4⟩ | ⟨j, c, rfl, g1, g2, g3, g4⟩)
              · exact .inl ⟨a1, e4.mono m⟩
              · have hj := (List.getElem?_eq_some_iff.mp g3).1
                exact .inr ⟨j, c, rfl, g1, by rw [zo j hj]; exact g2, by rw [st j (by rw [hk]; decide) rfl]; exact g3, g4.mono m⟩
            | bo =>
              rintro (e4 | ⟨j, c, rfl, g3, g4⟩)
              · exact .inl (e4.mono m)
              · exact .inr ⟨j, c, rfl, by rw [st j (by rw [hk]; decide) rfl]; exact g3, g4.mono m⟩
        · simp only [mutE, hl, List.mem_append] at hn
          rw [stay j (Nat.lt_of_lt_of_le hj s1.grow) (fun p i h1 h2 => by
            obtain ⟨_, b, c, _⟩ := af.inl p i h1
            exact hn i (.inl c) b h2) hj]
          exact s1.same j hj fun i hi ho => hn i (.inr hi) ho
      · cases q
      · cases q
theorem es_nil : SndEs T κ clq cl .nil := fun ρ ws ρ' Z S σ ok q I => by
  simp only [evsQ] at q
  cases q
  exact ⟨[], S, Z, rfl, I, Stp.refl, by simp only [RepL]⟩
theorem es_cons {es : Es} (he : SndE T κ clq cl e) (hs : SndEs T κ clq cl es) : SndEs T κ clq cl (.cons e es) := fun ρ ws ρ' Z S σ ok q I => by
  simp only [okEs, Bool.and_eq_true] at ok
  simp only [evsQ] at q
  obtain ⟨x, ρ1, q1, q⟩ := QR.bind_inv q
  obtain ⟨xs, ρ2, q2, q⟩ := QR.bind_inv q
  cases q
  obtain ⟨d, S1, Z1, e1, I1, s1, r1⟩ := he.sh ok.1 q1 I
  obtain ⟨ds, S2, Z2, e2, I2, s2, r2⟩ := hs ρ1 xs _ Z1 S1 σ ok.2 q2 I1
  exact ⟨d :: ds, S2, Z2, by simp only [evs, e1, e2, R.bind_ok], I2, s1.trans s2, repL_cons (Rep.mono (s2.mono I1.fz) _ _ r1) r2⟩
theorem o_no : SndO T κ clq cl .no := fun ρ i ρ' Z S σ ok q I => by
  simp only [evoQ] at q
  cases q
  exact ⟨S, Z, rfl, I, Stp.refl⟩
theorem o_so (he : SndE T κ clq cl e) : SndO T κ clq cl (.so e) := fun ρ i ρ' Z S σ ok q I => by
  simp only [okO] at ok
  simp only [evoQ] at q
  obtain ⟨x, ρ1, q1, q⟩ := QR.bind_inv q
  split at q
  · cases q
    obtain ⟨d, S1, Z1, e1, I1, s1, r1⟩ := he.sh ok q1 I
    simp only [Rep] at r1
    subst r1
    exact ⟨S1, Z1, by simp only [evo, e1, R.bind_ok], I1, s1⟩
  · cases q
end
structure SndL (T : QTbl) (κ : List Kd) (clq : QCl) (cl : Pv.Cl) (es : Es) : Prop where
  s : SndEs T κ clq cl es
  a : SndA T κ clq cl es
  one : ∀ e, es = .cons e .nil → SndE T κ clq cl e
structure SndOp (T : QTbl) (κ : List Kd) (clq : QCl) (cl : Pv.Cl) (op : Op) : Prop where
  o : SndO T κ clq cl op
  c : ∀ e, op = Op.so e → SndE T κ clq cl e
mutual
theorem snd_e (CO : ClOk T clq cl) : ∀ e : E, SndE T κ clq cl e
  | .var i => c_var i
  | .cst d => c_cst d
  | .glb x d => c_glb x d
  | .bin op a b => c_bin (snd_e CO a) (snd_e CO b)
  | .neg a => c_neg (snd_e CO a)
  | .not a => c_not (snd_e CO a)
  | .and a b => c_and (snd_e CO a) (snd_e CO b)
  | .or a b => c_or (snd_e CO a) (snd_e CO b)
  | .ite t a b => c_ite (snd_e CO t) (snd_e CO a) (snd_e CO b)
  | .cmp op a b => c_cmp (snd_e CO a) (snd_e CO b)
  | .chn o p a b c => c_chn (snd_e CO a) (snd_e CO b) (snd_e CO c)
  | .tup es => c_tup (snd_es CO es).s
  | .lst es => c_lst (snd_es CO es).s
  | .dic es => c_dic es
  | .sub a i => c_sub (snd_e CO a) (snd_e CO i)
  | .slc a lo hi => c_slc (snd_e CO a) (snd_o CO lo).o (snd_o CO hi).o
  | .rvs a => c_rvs (snd_e CO a)
  | .cal f es => c_cal CO (snd_es CO es).a
  | .blt f es => c_blt (snd_es CO es).one (snd_es CO es).s
  | .mth m a es => c_mth (snd_e CO a) (snd_es CO es).one (snd_es CO es).s
  | .isi a t => c_isi (snd_e CO a)
  | .lc elt tg ik es cd own => c_lc (snd_e CO elt) (snd_es CO es).one (snd_es CO es).s (snd_o CO cd).c
theorem snd_es (CO : ClOk T clq cl) : ∀ es : Es, SndL T κ clq cl es
  | .nil => ⟨es_nil, a_nil, fun e h => by cases h⟩
  | .cons e es => ⟨es_cons (snd_e CO e) (snd_es CO es).s, a_cons (snd_e CO e) (snd_es CO es).a, fun e' h => (Es.cons.inj h).1 ▸ snd_e CO e⟩
theorem snd_o (CO : ClOk T clq cl) : ∀ o : Op, SndOp T κ clq cl o
  | .no => ⟨o_no, fun e h => by cases h⟩
  | .so e => ⟨o_so (snd_e CO e), fun e' h => (Op.so.inj h) ▸ snd_e CO e⟩
end
end Pq
set_option Elab.async false
set_option linter.all false
set_option maxRecDepth 100000
set_option maxHeartbeats 1000000
/-! statements, calls -/
namespace Pq
open PySem PySem.Spec PyProof.Rows L2 Pv

mutual
def mutAT (T : QTbl) : AT → List Nat
  | .nm i => [i]
  | .tp ts => mutATs T ts
  | .sub a i => (match a with
    | .var x => [x]
    | _ => []) ++ mutE T i
def mutATs (T : QTbl) : ATs → List Nat
  | .nil => []
  | .cons t ts => mutAT T t ++ mutATs T ts
end
mutual
def mutS (T : QTbl) : Stm → List Nat
  | .asg t e => mutE T e ++ mutAT T t
  | .par i j a b => mutE T a ++ mutE T b
  | .ex e => mutE T e
  | .ret e => mutE T e
  | .retN => []
  | .ife t a b => mutE T t ++ (mutSs T a ++ mutSs T b)
  | .for _ _ es b => mutEs T es ++ mutSs T b
  | .whl t b => mutE T t ++ mutSs T b
  | .brk => []
  | .cnt => []
  | .pas => []
def mutSs (T : QTbl) : Stms → List Nat
  | .nil => []
  | .cons s ss => mutS T s ++ mutSs T ss
end
/-- at a return what is not changed any more may be told anywhere -/
def relax (κ : List Kd) (np : Nat) (M : List Nat) : List Kd := κ.mapIdx fun i k => if k = .ow ∧ np ≤ i ∧ i ∉ M then .sh else k
def okRet (T : QTbl) (κ : List Kd) (np : Nat) (fr : Bool) (e : E) : Bool := if fr = true then ((match e with
    | .var i => decide (kd κ i = .ow) && decide (np ≤ i)
    | _ => false) || clsE T (relax κ np (mutE T e)) e == some true) else (clsE T (relax κ np (mutE T e)) e).isSome
mutual
def okAT (T : QTbl) (κ : List Kd) : AT → Bool
  | .nm i => decide (kd κ i = .sh)
  | .tp ts => okATs T κ ts
  | .sub a i => (match a with
    | .var x => decide (kd κ x = .ow)
    | _ => false) && (clsE T κ i).isSome
def okATs (T : QTbl) (κ : List Kd) : ATs → Bool
  | .nil => true
  | .cons t ts => okAT T κ t && okATs T κ ts
end
/-- a slot may take what an expression tells -/
def takes (T : QTbl) (κ : List Kd) (np : Nat) (i : Nat) (e : E) : Bool := (decide (kd κ i = .sh) && (clsE T κ e).isSome) || (decide (kd κ i = .ow) && decide (np ≤ i) && (clsE T κ e == some true))
mutual
def okS (T : QTbl) (κ : List Kd) (np : Nat) (fr : Bool) : Stm → Bool
  | .asg t e => (match t with
    | .nm i => takes T κ np i e
    | t => (clsE T κ e).isSome && okAT T κ t)
  | .par i j a b => takes T κ np i a && takes T κ np j b && decide (i ≠ j)
  | .ex e => isV e || (clsE T κ e).isSome
  | .ret e => okRet T κ np fr e
  | .retN => true
  | .ife t a b => (isV t || (clsE T κ t).isSome) && okSs T κ np fr a && okSs T κ np fr b
  | .for tg _ es b => okArg T κ es && (tgSl tg).all (fun i => decide (kd κ i = .sh)) && okSs T κ np fr b && apartS κ es (mutSs T b)
  | .whl t b => (isV t || (clsE T κ t).isSome) && okSs T κ np fr b
  | .brk => true
  | .cnt => true
  | .pas => true
def okSs (T : QTbl) (κ : List Kd) (np : Nat) (fr : Bool) : Stms → Bool
  | .nil => true
  | .cons s ss => okS T κ np fr s && okSs T κ np fr ss
end
def okFn (T : QTbl) (fn : QFn) : Bool := okSs T fn.kd fn.np fn.fresh fn.body

/-! ### what is kept by statements -/
structure Mv (κ : List Kd) (np n : Nat) (σ σ' : DEnv) : Prop where
  len : σ'.length = σ.length
  par : ∀ i, i < np → kd κ i ≠ .sh → σ'[i]? = σ[i]?
  own : ∀ i j, kd κ i ≠ .sh → σ'[i]? = some (some (.ref j)) → σ[i]? = some (some (.ref j)) ∨ n ≤ j
def Loc (κ : List Kd) (np n0 : Nat) (σ : DEnv) : Prop := ∀ i j, np ≤ i → kd κ i = .ow → σ[i]? = some (some (.ref j)) → n0 ≤ j
structure RetR (κ : List Kd) (np n0 : Nat) (fr : Bool) (M : List Nat) (σ : DEnv) (S : Store) (w : W) (ρ' : QEnv) (d : D) (S' : Store) (Z Z' : Fz) : Prop where
  fz : FzOk Z' S'
  grow : S.length ≤ S'.length
  zo : ∀ j, j < n0 → Z' j = Z j
  same : ∀ j, j < S.length → (∀ i ∈ M, kd κ i = .ow → σ[i]? ≠ some (some (.ref j))) → S'[j]? = S[j]?
  par : ∀ i d, i < np → kd κ i = .ow → σ[i]? = some (some d) → ∃ w, ρ'[i]? = some (some w) ∧ Own Z' S' w d
  res : Res fr n0 Z' S' w d
def OutR (κ : List Kd) (np n0 : Nat) (fr : Bool) (M : List Nat) (σ : DEnv) (Z : Fz) (S : Store) (o : QO) (ρ' : QEnv) (o' : Out) (S' : Store) (Z' : Fz) : Prop := match o, o' with
  | .nx, .nx σ' => Inv κ Z' S' ρ' σ' ∧ Stp κ M σ Z Z' S S' ∧ Mv κ np S.length σ σ'
  | .bk, .bk σ' => Inv κ Z' S' ρ' σ' ∧ Stp κ M σ Z Z' S S' ∧ Mv κ np S.length σ σ'
  | .ct, .ct σ' => Inv κ Z' S' ρ' σ' ∧ Stp κ M σ Z Z' S S' ∧ Mv κ np S.length σ σ'
  | .ret w, .ret d => RetR κ np n0 fr M σ S w ρ' d S' Z Z'
  | _, _ => False
variable {T : QTbl} {κ : List Kd} {clq : QCl} {cl : Pv.Cl} {F np n0 : Nat} {fr : Bool}
section
variable {M M' : List Nat} {σ σ1 σ2 : DEnv} {Z Z' Z1 Z2 : Fz} {S S' S1 S2 : Store} {ρ ρ' : QEnv} {w : W} {d : D} {n : Nat} {e : E}
theorem Mv.refl : Mv κ np n σ σ := ⟨rfl, fun _ _ _ => rfl, fun _ _ _ h => .inl h⟩
theorem Mv.trans {m : Nat} (a : Mv κ np n σ σ1) (b : Mv κ np m σ1 σ2) (l : n ≤ m) : Mv κ np n σ σ2 :=
  ⟨b.len.trans a.len, fun i h1 h2 => (b.par i h1 h2).trans (a.par i h1 h2), fun i j h1 h2 => by
    rcases b.own i j h1 h2 with h | h
    · exact a.own i j h1 h
    · exact .inr (Nat.le_trans l h)⟩
theorem Loc.mv (h : Loc κ np n0 σ) (m : Mv κ np n σ σ1) (l : n0 ≤ n) : Loc κ np n0 σ1 := fun i j h1 h2 h3 => by
  rcases m.own i j (by rw [h2]; decide) h3 with q | q
  · exact h i j h1 h2 q
  · omega
theorem Stp.trans2 (a : Stp κ M σ Z Z1 S S1) (m : Mv κ np S.length σ σ1) (b : Stp κ M' σ1 Z1 Z2 S1 S2) : Stp κ (M ++ M') σ Z Z2 S S2 :=
  ⟨Nat.le_trans a.grow b.grow, fun j h => (b.zo j (Nat.lt_of_lt_of_le h a.grow)).trans (a.zo j h), fun j h q => by
    rw [b.same j (Nat.lt_of_lt_of_le h a.grow) fun i hi ho z => ?_, a.same j h fun i hi => q i (List.mem_append_left _ hi)]
    rcases m.own i j (by rw [ho]; decide) z with z | z
    · exact q i (List.mem_append_right _ hi) ho z
    · omega⟩
theorem OutR.after {o : QO} {o' : Out} (a : Stp κ M σ Z Z1 S S1) (m : Mv κ np S.length σ σ1) (l : n0 ≤ S.length) (h : OutR κ np n0 fr M' σ1 Z1 S1 o ρ' o' S' Z') : OutR κ np n0 fr (M ++ M') σ Z S o ρ' o' S' Z' := by
  cases o with
  | nx => cases o' <;> first | exact h.elim | exact ⟨h.1, a.trans2 m h.2.1, m.trans h.2.2 a.grow⟩
  | bk => cases o' <;> first | exact h.elim | exact ⟨h.1, a.trans2 m h.2.1, m.trans h.2.2 a.grow⟩
  | ct => cases o' <;> first | exact h.elim | exact ⟨h.1, a.trans2 m h.2.1, m.trans h.2.2 a.grow⟩
  | ret w =>
    cases o' with
    | ret d =>
      refine ⟨h.fz, Nat.le_trans a.grow h.grow, fun j hj => by rw [h.zo j hj, a.zo j (by omega)], fun j hj q => ?_, fun i d h1 h2 h3 => h.par i d h1 h2 (by rw [m.par i h1 (by rw [h2]; decide)]; exact h3), h.res⟩
      rw [h.same j (Nat.lt_of_lt_of_le hj a.grow) fun i hi ho z => ?_, a.same j hj fun i hi => q i (List.mem_append_left _ hi)]
      rcases m.own i j (by rw [ho]; decide) z with z | z
      · exact q i (List.mem_append_right _ hi) ho z
      · omega
    | _ => exact h.elim
theorem OutR.weak {o : QO} {o' : Out} (h : OutR κ np n0 fr M σ Z S o ρ' o' S' Z') (f : ∀ i ∈ M, i ∈ M') : OutR κ np n0 fr M' σ Z S o ρ' o' S' Z' := by
  cases o with
  | nx => cases o' <;> first | exact h.elim | exact ⟨h.1, h.2.1.weak f, h.2.2⟩
  | bk => cases o' <;> first | exact h.elim | exact ⟨h.1, h.2.1.weak f, h.2.2⟩
  | ct => cases o' <;> first | exact h.elim | exact ⟨h.1, h.2.1.weak f, h.2.2⟩
  | ret w =>
    cases o' with
    | ret d => exact ⟨h.fz, h.grow, h.zo, fun j hj q => h.same j hj fun i hi => q i (f i hi), h.par, h.res⟩
    | _ => exact h.elim
/-! ### targets -/
theorem Inv.setSh (I : Inv κ Z S ρ σ) {i : Nat} (hk : kd κ i = .sh) (hr : Rep Z w d) : Inv κ Z S (ρ.set i (some w)) (σ.set i (some d)) := by
  refine I.env (by rw [List.length_set, List.length_set]; exact I.len) (fun i' u hk' h => ?_) fun i' hk' => ?_
  · by_cases q : i = i'
    · subst q
      rw [List.getElem?_set] at h ⊢
      rw [I.len] at h
      by_cases l : i < σ.length
      · simp only [l, if_true] at h ⊢
        cases h
        exact ⟨d, rfl, hr⟩
      · simp [l] at h
    · rw [List.getElem?_set_ne q] at h ⊢
      obtain ⟨d', e1, e2⟩ := I.slot i' u h
      rw [hk'] at e2
      exact ⟨d', e1, e2⟩
  · have q : i ≠ i' := by rintro rfl; exact hk' hk
    exact ⟨List.getElem?_set_ne q, List.getElem?_set_ne q⟩
theorem Mv.setSh {i : Nat} (hk : kd κ i = .sh) : Mv κ np n σ (σ.set i (some d)) := by
  have q : ∀ i', kd κ i' ≠ .sh → i ≠ i' := fun i' h => by rintro rfl; exact h hk
  exact ⟨by rw [List.length_set], fun i' _ h => List.getElem?_set_ne (q i' h), fun i' j h e => .inl (by rwa [List.getElem?_set_ne (q i' h)] at e)⟩
/-- an owned slot takes a new thing -/
theorem Inv.setOw (I : Inv κ Z S ρ σ) {i : Nat} (hk : kd κ i = .ow) (h : Frs n Z S w d) (lt : ∀ i j, kd κ i ≠ .sh → σ[i]? = some (some (.ref j)) → j < n) : Inv κ Z S (ρ.set i (some w)) (σ.set i (some d)) := by
  have get : ∀ {i' : Nat} {x : D}, (σ.set i (some d))[i']? = some (some x) → (i' = i ∧ x = d) ∨ (i' ≠ i ∧ σ[i']? = some (some x)) := fun {i' x} e => by
    by_cases q : i = i'
    · subst q
      rw [List.getElem?_set] at e
      by_cases l : i < σ.length
      · simp [l] at e; exact .inl ⟨rfl, e.symm⟩
      · simp [l] at e
    · rw [List.getElem?_set_ne q] at e; exact .inr ⟨Ne.symm q, e⟩
  have hd : ∀ j, d = .ref j → n ≤ j ∧ Z j = none ∧ j < S.length := fun j e => by
    subst e
    rcases h with ⟨a, h⟩ | ⟨j', c, e, h1, h2, h3, _⟩
    · rw [(rep_ref h).1] at a; cases a
    · cases e; exact ⟨h1, h2, (List.getElem?_eq_some_iff.mp h3).1⟩
  refine ⟨by rw [List.length_set, List.length_set]; exact I.len, I.fz, fun i' u e => ?_, fun i' j h1 e => ?_, fun i1 i2 j h1 h2 h3 e1 e2 => ?_, fun i' j h1 e => ?_, fun i' x h1 e => ?_⟩
  · by_cases q : i = i'
    · subst q
      rw [List.getElem?_set] at e ⊢
      rw [I.len] at e
      by_cases l : i < σ.length
      · simp only [l, if_true] at e ⊢
        cases e
        exact ⟨d, rfl, by rw [hk]; exact h.weak (Nat.zero_le _)⟩
      · simp [l] at e
    · rw [List.getElem?_set_ne q] at e ⊢
      exact I.slot i' u e
  · rcases get e with ⟨rfl, q⟩ | ⟨_, q⟩
    · exact (hd j q.symm).2.2
    · exact I.lt i' j h1 q
  · rcases get e1 with ⟨rfl, q1⟩ | ⟨n1, q1⟩ <;> rcases get e2 with ⟨rfl, q2⟩ | ⟨n2, q2⟩
    · exact h2 rfl
    · have := lt i2 j h3 q2
      have := (hd j q1.symm).1
      omega
    · have := lt i1 j (by rw [h1]; decide) q1
      have := (hd j q2.symm).1
      omega
    · exact I.dis i1 i2 j h1 h2 h3 q1 q2
  · rcases get e with ⟨rfl, q⟩ | ⟨_, q⟩
    · exact (hd j q.symm).2.1
    · exact I.nz i' j h1 q
  · by_cases q : i = i'
    · subst q
      exact ⟨w, List.getElem?_set_self (by rw [I.len]; have := (List.getElem?_eq_some_iff.mp e).1; rwa [List.length_set] at this)⟩
    · rw [List.getElem?_set_ne q] at e ⊢
      exact I.full i' x h1 e
theorem Mv.setOw {i : Nat} (hi : np ≤ i) (h : Frs n Z S w d) : Mv κ np n σ (σ.set i (some d)) := by
  refine ⟨by rw [List.length_set], fun i' hi' _ => List.getElem?_set_ne (by omega), fun i' j hk e => ?_⟩
  by_cases q : i = i'
  · subst q
    rw [List.getElem?_set] at e
    by_cases l : i < σ.length
    · simp [l] at e
      subst e
      rcases h with ⟨a, h⟩ | ⟨j', c, e, h1, _⟩
      · rw [(rep_ref h).1] at a; cases a
      · cases e; exact .inr h1
    · simp [l] at e
  · rw [List.getElem?_set_ne q] at e; exact .inl e
mutual
theorem snd_at (CO : ClOk T clq cl) : ∀ (t : AT) (w : W) (d : D) (ρ ρ' : QEnv) (Z : Fz) (S : Store) (σ : DEnv), okAT T κ t = true → asgQ clq T t w ρ = .ok () ρ' → Rep Z w d → Inv κ Z S ρ σ → ∃ σ' S' Z', asgT cl t d σ S = .ok σ' S' ∧ Inv κ Z' S' ρ' σ' ∧ Stp κ (mutAT T t) σ Z Z' S S' ∧ Mv κ np S.length σ σ'
  | .nm i, w, d, ρ, ρ', Z, S, σ, ok, q, hr, I => by
    simp only [okAT, decide_eq_true_eq] at ok
    simp only [asgQ] at q
    split at q
    · rename_i hi
      cases q
      refine ⟨σ.set i (some d), S, Z, ?_, I.setSh ok hr, Stp.refl, Mv.setSh ok⟩
      simp only [asgT]
      rw [if_pos (by rw [← I.len]; exact hi)]
    · cases q
  | .tp ts, w, d, ρ, ρ', Z, S, σ, ok, q, hr, I => by
    simp only [okAT] at ok
    simp only [asgQ] at q
    split at q
    · rename_i ws
      split at q
      · rename_i hl
        simp only [Rep] at hr
        obtain ⟨ds, rfl, hr⟩ := hr
        obtain ⟨σ', S', Z', e1, r⟩ := snd_ats CO ts ws ds ρ ρ' Z S σ ok q hr I
        refine ⟨σ', S', Z', ?_, r⟩
        simp only [asgT]
        rw [if_pos (by rw [repL_len hr]; exact hl)]
        exact e1
      · cases q
    · cases q
  | .sub a i, w, d, ρ, ρ', Z, S, σ, ok, q, hr, I => by
    simp only [okAT, Bool.and_eq_true] at ok
    cases a with
    | var x =>
      simp only [decide_eq_true_eq] at ok
      obtain ⟨hk, oi⟩ := ok
      simp only [asgQ] at q
      obtain ⟨k, ρ1, q1, q⟩ := QR.bind_inv q
      split at q
      · rename_i c ec
        split at q
        · rename_i c' es
          cases q
          obtain ⟨dk, S1, Z1, e1, I1, s1, r1⟩ := (snd_e CO i).sh oi q1 I
          obtain ⟨dx, ex, ho⟩ := I1.slot x c ec
          rw [hk] at ho
          have hr1 := hr.mono (s1.mono I.fz)
          have hat : atomW c = false := by
            cases c <;> first | rfl | (cases k <;> simp [setW] at es)
          rcases ho with ⟨a, _⟩ | ⟨j, cc, rfl, _, _, hj, hcl⟩
          · rw [hat] at a; cases a
          have go : ∃ cc', setD (.ref j) dk d S1 = .ok () (S1.set j cc') ∧ RepC Z1 c' cc' := by
            unfold setW at es
            split at es
            · obtain ⟨ds, rfl, qd⟩ := repC_lst hcl
              rw [Option.map_eq_some_iff] at es
              obtain ⟨jj, ej, rfl⟩ := es
              simp only [Rep] at r1
              subst r1
              rw [← repL_len qd] at ej
              exact ⟨.lst (ds.set jj d), by simp only [setD, hj, ej], repL_set hr1 jj qd⟩
            · obtain ⟨ks, rfl, qd⟩ := repC_dic hcl
              rw [Option.bind_eq_some_iff] at es
              obtain ⟨kk, ek, es⟩ := es
              split at es
              · rename_i hl
                cases es
                rw [← repK_len qd] at hl
                exact ⟨.dic false (dput ks kk d), by simp only [setD, hj, key_rep r1 ek, if_pos hl], repK_put kk hr1 qd⟩
              · cases es
            · cases es
          obtain ⟨cc', e2, g⟩ := go
          obtain ⟨I2, s2⟩ := I1.write hk ex g
          refine ⟨σ, S1.set j cc', Z1, ?_, I2, (s1.trans s2).weak fun i' hi' => ?_, Mv.refl⟩
          · simp only [asgT, ev, ex, R.bind_ok, e1, e2]
          · simp only [mutAT, List.mem_append] at hi' ⊢
            exact hi'.elim .inr .inl
        · cases q
      · cases q
    | _ => exact absurd ok.1 (by simp)
theorem snd_ats (CO : ClOk T clq cl) : ∀ (ts : ATs) (ws : List W) (ds : List D) (ρ ρ' : QEnv) (Z : Fz) (S : Store) (σ : DEnv), okATs T κ ts = true → asgsQ clq T ts ws ρ = .ok () ρ' → RepL Z ws ds → Inv κ Z S ρ σ → ∃ σ' S' Z', asgTs cl ts ds σ S = .ok σ' S' ∧ Inv κ Z' S' ρ' σ' ∧ Stp κ (mutATs T ts) σ Z Z' S S' ∧ Mv κ np S.length σ σ'
  | .nil, [], ds, ρ, ρ', Z, S, σ, ok, q, hr, I => by
    simp only [asgsQ] at q
    cases q
    simp only [RepL] at hr
    subst hr
    exact ⟨σ, S, Z, by simp only [asgTs], I, Stp.refl, Mv.refl⟩
  | .nil, w :: ws, ds, ρ, ρ', Z, S, σ, ok, q, hr, I => by simp only [asgsQ] at q; cases q
  | .cons t ts, [], ds, ρ, ρ', Z, S, σ, ok, q, hr, I => by simp only [asgsQ] at q; cases q
  | .cons t ts, w :: ws, ds, ρ, ρ', Z, S, σ, ok, q, hr, I => by
    simp only [okATs, Bool.and_eq_true] at ok
    simp only [asgsQ] at q
    obtain ⟨u, ρ1, q1, q⟩ := QR.bind_inv q
    simp only [RepL] at hr
    obtain ⟨d, r, rfl, h1, h2⟩ := hr
    obtain ⟨σ1, S1, Z1, e1, I1, s1, m1⟩ := snd_at CO t w d ρ ρ1 Z S σ ok.1 q1 h1 I
    obtain ⟨σ2, S2, Z2, e2, I2, s2, m2⟩ := snd_ats CO ts ws r ρ1 ρ' Z1 S1 σ1 ok.2 q (RepL.mono (s1.mono I.fz) _ _ h2) I1
    exact ⟨σ2, S2, Z2, by simp only [asgTs, e1, R.bind_ok, e2], I2, s1.trans2 m1 s2, m1.trans m2 s1.grow⟩
end
/-! ### loops -/
def SndB (κ : List Kd) (np n0 : Nat) (fr : Bool) (M : List Nat) (bq : QEnv → QR QO) (bp : DEnv → Store → R Out) : Prop := ∀ ρ o ρ' Z S σ, bq ρ = .ok o ρ' → Inv κ Z S ρ σ → Loc κ np n0 σ → n0 ≤ S.length → ∃ o' S' Z', bp σ S = .ok o' S' ∧ OutR κ np n0 fr M σ Z S o ρ' o' S' Z'
theorem for_go {bq : W → QEnv → QR QO} {bp : D → DEnv → Store → R Out} {g : Option Nat} {all : List D}
    (step : ∀ w d ρ o ρ' Z S σ, Rep Z w d → bq w ρ = .ok o ρ' → Inv κ Z S ρ σ → Loc κ np n0 σ → n0 ≤ S.length → ∃ o' S' Z', bp d σ S = .ok o' S' ∧ OutR κ np n0 fr M σ Z S o ρ' o' S' Z') :
    ∀ xs ds ρ o ρ' Z S σ, RepL Z xs ds → forQ bq xs ρ = .ok o ρ' → Inv κ Z S ρ σ → Loc κ np n0 σ → n0 ≤ S.length → stands g all S → (∀ r, g = some r → ∀ i ∈ M, kd κ i = .ow → σ[i]? ≠ some (some (.ref r))) →
      ∃ o' S' Z', forGo bp g all ds σ S = .ok o' S' ∧ OutR κ np n0 fr M σ Z S o ρ' o' S' Z'
  | [], ds, ρ, o, ρ', Z, S, σ, h, q, I, lo, ln, st, gs => by
    simp only [RepL] at h
    subst h
    simp only [forQ] at q
    cases q
    exact ⟨.nx σ, S, Z, by unfold forGo; rw [if_pos st], I, Stp.refl, Mv.refl⟩
  | x :: xs, ds, ρ, o, ρ', Z, S, σ, h, q, I, lo, ln, st, gs => by
    simp only [RepL] at h
    obtain ⟨d, r, rfl, h1, h2⟩ := h
    simp only [forQ] at q
    obtain ⟨o1, ρ1, q1, q⟩ := QR.bind_inv q
    obtain ⟨o1', S1, Z1, e1, r1⟩ := step x d ρ o1 ρ1 Z S σ h1 q1 I lo ln
    have idem : ∀ i ∈ M ++ M, i ∈ M := fun i hi => (List.mem_append.mp hi).elim id id
    have next : ∀ {σ1 : DEnv}, (Inv κ Z1 S1 ρ1 σ1 ∧ Stp κ M σ Z Z1 S S1 ∧ Mv κ np S.length σ σ1) → forQ bq xs ρ1 = .ok o ρ' → ∃ o' S' Z', forGo bp g all r σ1 S1 = .ok o' S' ∧ OutR κ np n0 fr M σ Z S o ρ' o' S' Z' := fun {σ1} ⟨I1, s1, m1⟩ q => by
      have st1 : stands g all S1 := by
        cases g with
        | none => exact True.intro
        | some r =>
          show S1[r]? = _
          rw [s1.same r (List.getElem?_eq_some_iff.mp st).1 (gs r rfl)]
          exact st
      obtain ⟨o', S2, Z2, e2, r2⟩ := for_go step xs r ρ1 o ρ' Z1 S1 σ1 (RepL.mono (s1.mono I.fz) _ _ h2) q I1 (lo.mv m1 ln) (Nat.le_trans ln s1.grow) st1 fun r hr i hi ho z => by
        rcases m1.own i r (by rw [ho]; decide) z with z | z
        · exact gs r hr i hi ho z
        · subst hr
          have := (List.getElem?_eq_some_iff.mp st).1
          omega
      exact ⟨o', S2, Z2, e2, (r2.after s1 m1 ln).weak idem⟩
    cases o1 with
    | nx =>
      cases o1' <;> first | exact r1.elim | skip
      rename_i σ1
      obtain ⟨o', S2, Z2, e2, r2⟩ := next r1 q
      exact ⟨o', S2, Z2, by unfold forGo; rw [if_pos st, e1, R.bind_ok]; exact e2, r2⟩
    | ct =>
      cases o1' <;> first | exact r1.elim | skip
      rename_i σ1
      obtain ⟨o', S2, Z2, e2, r2⟩ := next r1 q
      exact ⟨o', S2, Z2, by unfold forGo; rw [if_pos st, e1, R.bind_ok]; exact e2, r2⟩
    | bk =>
      cases o1' <;> first | exact r1.elim | skip
      rename_i σ1
      cases q
      exact ⟨.nx σ1, S1, Z1, by unfold forGo; rw [if_pos st, e1, R.bind_ok], r1⟩
    | ret w =>
      cases o1' <;> first | exact r1.elim | skip
      rename_i d1
      cases q
      exact ⟨.ret d1, S1, Z1, by unfold forGo; rw [if_pos st, e1, R.bind_ok], r1⟩
theorem wh_go {t : E} {bq : QEnv → QR QO} {bp : DEnv → Store → R Out} (ht : SndE T κ clq cl t) (ok : (isV t || (clsE T κ t).isSome) = true) (hb : SndB κ np n0 fr M bq bp) :
    ∀ n, SndB κ np n0 fr (mutE T t ++ M) (whQ (fun ρ => evQ clq T t ρ) bq n) (whGo (fun σ S => ev cl t σ S) bp n)
  | 0 => fun ρ o ρ' Z S σ q I lo ln => by simp only [whQ] at q; cases q
  | n + 1 => fun ρ o ρ' Z S σ q I lo ln => by
    simp only [whQ] at q
    obtain ⟨x, ρ1, q1, q⟩ := QR.bind_inv q
    obtain ⟨k, rfl, qk⟩ := isBQ_inv q
    obtain ⟨dx, S1, Z1, e1, I1, s1, r1⟩ := ht.opd ok q1 I
    have := vw_bl r1.vw
    subst this
    cases k with
    | false =>
      simp only [Bool.false_eq_true, if_false] at qk
      cases qk
      exact ⟨.nx σ, S1, Z1, by simp only [whGo, e1, R.bind_ok, isB, Bool.false_eq_true, if_false], I1, s1.weak fun i hi => List.mem_append_left _ hi, Mv.refl⟩
    | true =>
      simp only [if_true] at qk
      obtain ⟨o1, ρ2, q2, qk⟩ := QR.bind_inv qk
      obtain ⟨o1', S2, Z2, e2, r2⟩ := hb ρ1 o1 ρ2 Z1 S1 σ q2 I1 lo (Nat.le_trans ln s1.grow)
      have r3 := r2.after s1 Mv.refl ln
      have idem : ∀ i ∈ (mutE T t ++ M) ++ (mutE T t ++ M), i ∈ mutE T t ++ M := fun i hi => (List.mem_append.mp hi).elim id id
      have next : ∀ {σ1 : DEnv}, (Inv κ Z2 S2 ρ2 σ1 ∧ Stp κ (mutE T t ++ M) σ Z Z2 S S2 ∧ Mv κ np S.length σ σ1) → whQ (fun ρ => evQ clq T t ρ) bq n ρ2 = .ok o ρ' → ∃ o' S' Z', whGo (fun σ S => ev cl t σ S) bp n σ1 S2 = .ok o' S' ∧ OutR κ np n0 fr (mutE T t ++ M) σ Z S o ρ' o' S' Z' := fun {σ1} ⟨I2, s2, m2⟩ q => by
        obtain ⟨o', S3, Z3, e3, r4⟩ := wh_go ht ok hb n ρ2 o ρ' Z2 S2 σ1 q I2 (lo.mv m2 ln) (Nat.le_trans ln s2.grow)
        exact ⟨o', S3, Z3, e3, (r4.after s2 m2 ln).weak idem⟩
      cases o1 with
      | nx =>
        cases o1' <;> first | exact r3.elim | skip
        obtain ⟨o', S3, Z3, e3, r4⟩ := next r3 qk
        exact ⟨o', S3, Z3, by simp only [whGo, e1, R.bind_ok, isB, if_true, e2]; exact e3, r4⟩
      | ct =>
        cases o1' <;> first | exact r3.elim | skip
        obtain ⟨o', S3, Z3, e3, r4⟩ := next r3 qk
        exact ⟨o', S3, Z3, by simp only [whGo, e1, R.bind_ok, isB, if_true, e2]; exact e3, r4⟩
      | bk =>
        cases o1' <;> first | exact r3.elim | skip
        rename_i σ1
        cases qk
        exact ⟨.nx σ1, S2, Z2, by simp only [whGo, e1, R.bind_ok, isB, if_true, e2], r3⟩
      | ret w =>
        cases o1' <;> first | exact r3.elim | skip
        rename_i d1
        cases qk
        exact ⟨.ret d1, S2, Z2, by simp only [whGo, e1, R.bind_ok, isB, if_true, e2], r3⟩
/-! ### what is told at a return -/
theorem relax_kd {M : List Nat} {i : Nat} : kd (relax κ np M) i = if kd κ i = .ow ∧ np ≤ i ∧ i ∉ M then .sh else kd κ i := by
  unfold kd relax
  rw [List.getElem?_mapIdx]
  cases h : κ[i]? with
  | none => simp
  | some k => simp
theorem relax1 (I : Inv κ Z S ρ σ) {i : Nat} (hk : kd κ i = .ow) : ∃ Z', (∀ κ2 : List Kd, (∀ i', i' ≠ i → kd κ2 i' = kd κ i') → kd κ2 i = .sh → Inv κ2 Z' S ρ σ) ∧ ∀ j, Z' j ≠ Z j → σ[i]? = some (some (.ref j)) := by
  have base : ∀ Z', Mono Z Z' → FzOk Z' S → (∀ j, Z' j ≠ Z j → σ[i]? = some (some (.ref j))) → (∀ w, ρ[i]? = some (some w) → ∃ d, σ[i]? = some (some d) ∧ Rep Z' w d) → ∀ κ2 : List Kd, (∀ i', i' ≠ i → kd κ2 i' = kd κ i') → kd κ2 i = .sh → Inv κ2 Z' S ρ σ := fun Z' m fz hz hr κ2 h1 h2 => by
    have ne : ∀ {i'}, kd κ2 i' ≠ .sh → i' ≠ i := fun {i'} h => by rintro rfl; exact h h2
    refine ⟨I.len, fz, fun i' w e => ?_, fun i' j hk' e => I.lt i' j (by rw [← h1 i' (ne hk')]; exact hk') e, fun i1 i2 j a b c e1 e2 => ?_, fun i' j a e => ?_, fun i' d a e => I.full i' d (by rw [← h1 i' (ne (by rw [a]; decide))]; exact a) e⟩
    · by_cases q : i' = i
      · subst q
        obtain ⟨d, e1, e2⟩ := hr w e
        exact ⟨d, e1, by rw [h2]; exact e2⟩
      · obtain ⟨d, e1, e2⟩ := I.slot i' w e
        refine ⟨d, e1, ?_⟩
        rw [h1 i' q]
        revert e2
        cases hk' : kd κ i' with
        | sh => exact fun e2 => Rep.mono m _ _ e2
        | ow =>
          rintro (⟨a, e2⟩ | ⟨j, c, rfl, g1, g2, g3, g4⟩)
          · exact .inl ⟨a, e2.mono m⟩
          · refine .inr ⟨j, c, rfl, g1, ?_, g3, g4.mono m⟩
            by_cases z : Z' j = Z j
            · rw [z]; exact g2
            · exact absurd (hz j z) (I.dis i' i j hk' q (by rw [hk]; decide) e1)
        | bo =>
          rintro (e2 | ⟨j, c, rfl, g3, g4⟩)
          · exact .inl (e2.mono m)
          · exact .inr ⟨j, c, rfl, g3, g4.mono m⟩
    · have a1 : kd κ i1 = .ow := by rw [← h1 i1 (ne (by rw [a]; decide))]; exact a
      have c1 : kd κ i2 ≠ .sh := by rw [← h1 i2 (ne c)]; exact c
      exact I.dis i1 i2 j a1 b c1 e1 e2
    · have n1 := ne (i' := i') (by rw [a]; decide)
      have a1 : kd κ i' = .ow := by rw [← h1 i' n1]; exact a
      by_cases z : Z' j = Z j
      · rw [z]; exact I.nz i' j a1 e
      · exact absurd (hz j z) (I.dis i' i j a1 n1 (by rw [hk]; decide) e)
  by_cases h : ∃ w, ρ[i]? = some (some w)
  · obtain ⟨w, e⟩ := h
    obtain ⟨d, e1, e2⟩ := I.slot i w e
    rw [hk] at e2
    have uniq : ∀ w', ρ[i]? = some (some w') → w' = w := fun w' e' => by rw [e] at e'; cases e'; rfl
    rcases e2 with ⟨a, e2⟩ | ⟨j, c, rfl, g1, g2, g3, g4⟩
    · exact ⟨Z, base Z (fun _ _ h => h) I.fz (fun j h => absurd rfl h) fun w' e' => ⟨d, e1, by rw [uniq w' e']; exact e2⟩, fun j h => absurd rfl h⟩
    · have m : Mono Z (fun i => if i = j then some w else Z i) := fun i u e => by
        by_cases q : i = j
        · subst q; rw [g2] at e; cases e
        · simp only [if_neg q]; exact e
      have hz : ∀ j', (if j' = j then some w else Z j') ≠ Z j' → σ[i]? = some (some (.ref j')) := fun j' h => by
        by_cases q : j' = j
        · subst q; exact e1
        · simp only [if_neg q, ne_eq, not_true_eq_false] at h
      refine ⟨fun i => if i = j then some w else Z i, base _ m (fun i u e => ?_) hz fun w' e' => ⟨.ref j, e1, ?_⟩, hz⟩
      · by_cases q : i = j
        · subst q
          simp only [if_true] at e
          cases e
          exact ⟨c, g3, g4.mono m⟩
        · simp only [if_neg q] at e
          obtain ⟨c', e1, e2⟩ := I.fz _ _ e
          exact ⟨c', e1, e2.mono m⟩
      · rw [uniq w' e']
        cases w <;> simp only [RepC] at g4 <;> simp only [Rep] <;> first | exact g4.elim | exact ⟨j, rfl, by simp only [if_true]⟩
  · exact ⟨Z, base Z (fun _ _ h => h) I.fz (fun j h => absurd rfl h) fun w' e' => absurd ⟨w', e'⟩ h, fun j h => absurd rfl h⟩
theorem relax_n (I : Inv κ Z S ρ σ) (M : List Nat) : ∀ n, ∃ Z', (∀ κ2 : List Kd, (∀ i, kd κ2 i = if i < n ∧ kd κ i = .ow ∧ np ≤ i ∧ i ∉ M then .sh else kd κ i) → Inv κ2 Z' S ρ σ) ∧ ∀ j, Z' j ≠ Z j → ∃ i, np ≤ i ∧ kd κ i = .ow ∧ σ[i]? = some (some (.ref j))
  | 0 => by
    refine ⟨Z, fun κ2 h => ?_, fun j h => absurd rfl h⟩
    have e : ∀ i, kd κ2 i = kd κ i := fun i => by rw [h i]; simp
    exact ⟨I.len, I.fz, fun i w q => by rw [e i]; exact I.slot i w q, fun i j q => I.lt i j (by rw [← e i]; exact q), fun i i' j q1 q2 q3 => I.dis i i' j (by rw [← e i]; exact q1) q2 (by rw [← e i']; exact q3), fun i j q => I.nz i j (by rw [← e i]; exact q), fun i d q => I.full i d (by rw [← e i]; exact q)⟩
  | n + 1 => by
    obtain ⟨Z1, h1, h2⟩ := relax_n I M n
    by_cases c : kd κ n = .ow ∧ np ≤ n ∧ n ∉ M
    · let κ1 : List Kd := κ.mapIdx fun i k => if i < n ∧ k = .ow ∧ np ≤ i ∧ i ∉ M then .sh else k
      have e1 : ∀ i, kd κ1 i = if i < n ∧ kd κ i = .ow ∧ np ≤ i ∧ i ∉ M then .sh else kd κ i := fun i => by
        show ((κ.mapIdx _)[i]?).getD Kd.sh = _
        rw [List.getElem?_mapIdx]
        unfold kd
        cases h : κ[i]? with
        | none => simp
        | some k => simp
      have I1 := h1 κ1 e1
      obtain ⟨Z2, h3, h4⟩ := relax1 I1 (i := n) (by rw [e1 n]; simp [c.1])
      refine ⟨Z2, fun κ2 h => h3 κ2 (fun i' hi' => ?_) (by rw [h n]; simp [c]), fun j hj => ?_⟩
      · rw [h i', e1 i']
        have : (i' < n + 1) ↔ (i' < n) := by omega
        simp only [this]
      · by_cases z : Z2 j = Z1 j
        · rw [z] at hj; exact h2 j hj
        · exact ⟨n, c.2.1, c.1, h4 j z⟩
    · refine ⟨Z1, fun κ2 h => h1 κ2 fun i => ?_, h2⟩
      rw [h i]
      by_cases q : i = n
      · subst q
        rw [if_neg fun z => c z.2, if_neg fun z => c z.2]
      · have : (i < n + 1) ↔ (i < n) := by omega
        simp only [this]
theorem relax_inv (I : Inv κ Z S ρ σ) (M : List Nat) (lo : Loc κ np n0 σ) : ∃ Z', Inv (relax κ np M) Z' S ρ σ ∧ ∀ j, j < n0 → Z' j = Z j := by
  obtain ⟨Z', h1, h2⟩ := relax_n (np := np) I M κ.length
  refine ⟨Z', h1 _ fun i => ?_, fun j hj => ?_⟩
  · rw [relax_kd]
    by_cases q : i < κ.length
    · simp [q]
    · have : kd κ i = .sh := by unfold kd; rw [List.getElem?_eq_none (Nat.le_of_not_lt q)]; rfl
      simp [this]
  · by_cases z : Z' j = Z j
    · exact z
    · obtain ⟨i, a, b, c⟩ := h2 j z
      have := lo i j a b c
      omega
end
end Pq
set_option Elab.async false
set_option linter.all false
set_option maxRecDepth 100000
set_option maxHeartbeats 1000000
/-! every statement, every call -/
namespace Pq
open PySem PySem.Spec PyProof.Rows L2 Pv
variable {T : QTbl} {κ : List Kd} {clq : QCl} {cl : Pv.Cl} {F np n0 : Nat} {fr : Bool}
section
variable {M M' : List Nat} {σ σ1 σ2 : DEnv} {Z Z' Z1 Z2 : Fz} {S S' S1 S2 : Store} {ρ ρ' : QEnv} {w : W} {d : D} {n : Nat} {e : E}
/-- a slot takes what was evaluated -/
theorem takes_go (CO : ClOk T clq cl) {i : Nat} (ok : takes T κ np i e = true) (q : evQ clq T e ρ = .ok w ρ') (I : Inv κ Z S ρ σ) : ∃ d S' Z', ev cl e σ S = .ok d S' ∧ Inv κ Z' S' ρ' σ ∧ Stp κ (mutE T e) σ Z Z' S S' ∧ ((kd κ i = .sh ∧ Rep Z' w d) ∨ (kd κ i = .ow ∧ np ≤ i ∧ Frs S.length Z' S' w d)) := by
  simp only [takes, Bool.or_eq_true, Bool.and_eq_true, decide_eq_true_eq] at ok
  rcases ok with ⟨hk, ok⟩ | ⟨⟨hk, hi⟩, ok⟩
  · obtain ⟨d, S1, Z1, e1, I1, s1, r1⟩ := (snd_e CO e).sh ok q I
    exact ⟨d, S1, Z1, e1, I1, s1, .inl ⟨hk, r1⟩⟩
  · obtain ⟨d, S1, Z1, e1, I1, s1, r1⟩ := snd_e CO e true ρ w ρ' Z S σ (by simpa using ok) q I
    exact ⟨d, S1, Z1, e1, I1, s1, .inr ⟨hk, hi, r1⟩⟩
theorem takes_set {i : Nat} (I : Inv κ Z S ρ σ) (h : (kd κ i = .sh ∧ Rep Z w d) ∨ (kd κ i = .ow ∧ np ≤ i ∧ Frs n Z S w d)) (lt : ∀ i j, kd κ i ≠ .sh → σ[i]? = some (some (.ref j)) → j < n) : Inv κ Z S (ρ.set i (some w)) (σ.set i (some d)) ∧ Mv κ np n σ (σ.set i (some d)) := by
  rcases h with ⟨hk, h⟩ | ⟨hk, hi, h⟩
  · exact ⟨I.setSh hk h, Mv.setSh hk⟩
  · exact ⟨I.setOw hk h lt, Mv.setOw hi h⟩
theorem b_asg (CO : ClOk T clq cl) {t : AT} {e : E} (ok : okS T κ np fr (.asg t e) = true) : SndB κ np n0 fr (mutS T (.asg t e)) (execQ clq T F (.asg t e)) (exec cl F (.asg t e)) := fun ρ o ρ' Z S σ q I lo ln => by
  simp only [execQ] at q
  obtain ⟨w, ρ1, q1, q⟩ := QR.bind_inv q
  obtain ⟨u, ρ2, q2, q⟩ := QR.bind_inv q
  cases q
  have gen : (clsE T κ e).isSome = true → okAT T κ t = true → ∃ o' S' Z', exec cl F (.asg t e) σ S = .ok o' S' ∧ OutR κ np n0 fr (mutS T (.asg t e)) σ Z S .nx ρ' o' S' Z' := fun o1 o2 => by
    obtain ⟨d, S1, Z1, e1, I1, s1, r1⟩ := (snd_e CO e).sh o1 q1 I
    obtain ⟨σ2, S2, Z2, e2, I2, s2, m2⟩ := snd_at (np := np) CO t w d ρ1 ρ' Z1 S1 σ o2 q2 r1 I1
    exact ⟨.nx σ2, S2, Z2, by simp only [Pv.exec, e1, R.bind_ok, e2], I2, s1.trans2 (Mv.refl (np := np)) s2, (Mv.refl.trans m2 s1.grow)⟩
  cases t with
  | nm i =>
    simp only [okS] at ok
    obtain ⟨d, S1, Z1, e1, I1, s1, r1⟩ := takes_go CO ok q1 I
    simp only [asgQ] at q2
    split at q2
    · rename_i hi
      cases q2
      obtain ⟨I2, m2⟩ := takes_set I1 r1 I.lt
      refine ⟨.nx _, S1, Z1, ?_, I2, s1.weak fun i hi => List.mem_append_left _ hi, m2⟩
      simp only [Pv.exec, e1, R.bind_ok, asgT]
      rw [if_pos (by rw [← I1.len]; exact hi)]
      rfl
    · cases q2
  | tp ts => simp only [okS, Bool.and_eq_true] at ok; exact gen ok.1 ok.2
  | sub a i => simp only [okS, Bool.and_eq_true] at ok; exact gen ok.1 ok.2
theorem b_par (CO : ClOk T clq cl) {i j : Nat} {a b : E} (ok : okS T κ np fr (.par i j a b) = true) : SndB κ np n0 fr (mutS T (.par i j a b)) (execQ clq T F (.par i j a b)) (exec cl F (.par i j a b)) := fun ρ o ρ' Z S σ q I lo ln => by
  simp only [okS, Bool.and_eq_true, decide_eq_true_eq] at ok
  obtain ⟨⟨oa, ob⟩, hij⟩ := ok
  simp only [execQ] at q
  obtain ⟨x, ρ1, q1, q⟩ := QR.bind_inv q
  obtain ⟨y, ρ2, q2, q⟩ := QR.bind_inv q
  split at q
  · rename_i hl
    cases q
    obtain ⟨dx, S1, Z1, e1, I1, s1, r1⟩ := takes_go CO oa q1 I
    obtain ⟨dy, S2, Z2, e2, I2, s2, r2⟩ := takes_go CO ob q2 I1
    have r1' : (kd κ i = .sh ∧ Rep Z2 x dx) ∨ (kd κ i = .ow ∧ np ≤ i ∧ Frs S.length Z2 S2 x dx) := r1.imp (fun h => ⟨h.1, h.2.mono (s2.mono I1.fz)⟩) fun h => ⟨h.1, h.2.1, Frs.later h.2.2 I1.fz s2 I.lt⟩
    obtain ⟨I3, m3⟩ := takes_set I2 r1' I.lt
    have lt3 : ∀ i' j', kd κ i' ≠ .sh → (σ.set i (some dx))[i']? = some (some (.ref j')) → j' < S1.length := fun i' j' hk e => by
      by_cases z : i = i'
      · subst z
        rw [List.getElem?_set] at e
        by_cases l : i < σ.length
        · simp [l] at e
          subst e
          rcases r1 with ⟨hs, _⟩ | ⟨_, _, r1⟩
          · exact absurd hs hk
          · exact vw_lt I1.fz r1.vw
        · simp [l] at e
      · rw [List.getElem?_set_ne z] at e
        exact I1.lt i' j' hk e
    obtain ⟨I4, m4⟩ := takes_set I3 r2 lt3
    refine ⟨.nx _, S2, Z2, ?_, I4, s1.trans s2, m3.trans m4 s1.grow⟩
    simp only [Pv.exec, e1, R.bind_ok, e2]
    rw [if_pos (by rw [← I2.len]; exact hl)]
  · cases q
theorem b_ex (CO : ClOk T clq cl) {e : E} (ok : okS T κ np fr (.ex e) = true) : SndB κ np n0 fr (mutS T (.ex e)) (execQ clq T F (.ex e)) (exec cl F (.ex e)) := fun ρ o ρ' Z S σ q I lo ln => by
  simp only [okS] at ok
  simp only [execQ] at q
  obtain ⟨x, ρ1, q1, q⟩ := QR.bind_inv q
  cases q
  obtain ⟨d, S1, Z1, e1, I1, s1, _⟩ := (snd_e CO e).opd ok q1 I
  exact ⟨.nx σ, S1, Z1, by simp only [Pv.exec, e1, R.bind_ok], I1, s1, Mv.refl⟩
theorem ret_par (I : Inv κ Z S ρ σ) : ∀ i d, i < np → kd κ i = .ow → σ[i]? = some (some d) → ∃ w, ρ[i]? = some (some w) ∧ Own Z S w d := fun i d _ hk e => by
  obtain ⟨w, e1⟩ := I.full i d hk e
  obtain ⟨d', e2, h⟩ := I.slot i w e1
  rw [e] at e2
  cases e2
  rw [hk] at h
  exact ⟨w, e1, h⟩
theorem b_ret (CO : ClOk T clq cl) {e : E} (ok : okS T κ np fr (.ret e) = true) : SndB κ np n0 fr (mutS T (.ret e)) (execQ clq T F (.ret e)) (exec cl F (.ret e)) := fun ρ o ρ' Z S σ q I lo ln => by
  simp only [okS] at ok
  simp only [execQ] at q
  obtain ⟨w, ρ1, q1, q⟩ := QR.bind_inv q
  cases q
  have gen : (clsE T (relax κ np (mutE T e)) e).isSome = true → (fr = true → clsE T (relax κ np (mutE T e)) e = some true) → ∃ o' S' Z', exec cl F (.ret e) σ S = .ok o' S' ∧ OutR κ np n0 fr (mutS T (.ret e)) σ Z S (.ret w) ρ' o' S' Z' := fun o1 o2 => by
    obtain ⟨Z1, I1, z1⟩ := relax_inv I (mutE T e) lo
    have key : ∃ d S' Z', ev cl e σ S = .ok d S' ∧ Inv (relax κ np (mutE T e)) Z' S' ρ' σ ∧ Stp (relax κ np (mutE T e)) (mutE T e) σ Z1 Z' S S' ∧ Res fr n0 Z' S' w d := by
      cases fr with
      | false =>
        obtain ⟨d, S2, Z2, e2, I2, s2, r2⟩ := (snd_e CO e).sh o1 q1 I1
        exact ⟨d, S2, Z2, e2, I2, s2, r2⟩
      | true =>
        obtain ⟨d, S2, Z2, e2, I2, s2, r2⟩ := snd_e CO e true ρ w ρ' Z1 S σ (o2 rfl) q1 I1
        exact ⟨d, S2, Z2, e2, I2, s2, r2.weak ln⟩
    obtain ⟨d, S2, Z2, e2, I2, s2, r2⟩ := key
    refine ⟨.ret d, S2, Z2, by simp only [Pv.exec, e2, R.bind_ok], I2.fz, s2.grow, fun j hj => by rw [s2.zo j (by omega), z1 j hj], fun j hj h => s2.same j hj fun i hi ho => h i hi ?_, fun i d hi hk e => ret_par (np := np) I2 i d hi ?_ e, r2⟩
    · rw [relax_kd] at ho
      split at ho
      · cases ho
      · exact ho
    · rw [relax_kd, if_neg fun z => by omega]; exact hk
  unfold okRet at ok
  split at ok
  · rename_i hf
    rw [Bool.or_eq_true] at ok
    rcases ok with ok | ok
    · cases e with
      | var i =>
        simp only [Bool.and_eq_true, decide_eq_true_eq] at ok
        simp only [evQ] at q1
        split at q1
        · rename_i u eu
          cases q1
          obtain ⟨d, e1, e2⟩ := I.slot i w eu
          rw [ok.1] at e2
          refine ⟨.ret d, S, Z, by simp only [Pv.exec, ev, e1, R.bind_ok], I.fz, Nat.le_refl _, fun _ _ => rfl, fun _ _ _ => rfl, ret_par I, ?_⟩
          rw [hf]
          rcases e2 with e2 | ⟨j, c, rfl, g1, g2, g3, g4⟩
          · exact .inl e2
          · exact .inr ⟨j, c, rfl, lo i j ok.2 ok.1 e1, g2, g3, g4⟩
        · cases q1
      | _ => cases ok
    · have := (by simpa using ok : clsE T (relax κ np (mutE T e)) e = some true)
      exact gen (by rw [this]; rfl) fun _ => this
  · rename_i hf
    exact gen ok fun z => absurd z hf
theorem isOne_of {es : Es} (h : ∀ e, SndE T κ clq cl e) : ∀ e, es = .cons e .nil → SndE T κ clq cl e := fun e _ => h e
theorem b_for (CO : ClOk T clq cl) {t : Tg} {ik : IK} {es : Es} {b : Stms} (ok : okS T κ np fr (.for t ik es b) = true) (hb : SndB κ np n0 fr (mutSs T b) (execsQ clq T F b) (execs cl F b)) : SndB κ np n0 fr (mutS T (.for t ik es b)) (execQ clq T F (.for t ik es b)) (exec cl F (.for t ik es b)) := fun ρ o ρ' Z S σ q I lo ln => by
  simp only [okS, Bool.and_eq_true, List.all_eq_true, decide_eq_true_eq] at ok
  obtain ⟨⟨⟨o1, o2⟩, o3⟩, o4⟩ := ok
  simp only [execQ] at q
  obtain ⟨ws, ρ1, q1, q⟩ := QR.bind_inv q
  split at q
  · cases q
  · rename_i xs ex
    obtain ⟨ds, S1, Z1, e1, I1, s1, v1, _, v3⟩ := args (snd_es CO es).one (snd_es CO es).s o1 q1 I
    obtain ⟨ys, g, e2, r2, st, hg⟩ := iter_vw I1.fz ex v1
    obtain ⟨o', S2, Z2, e3, r3⟩ := for_go (κ := κ) (np := np) (n0 := n0) (fr := fr) (M := mutSs T b) (bp := fun d ρ' S2 => match bindT t d ρ' with
        | none => .no
        | some ρ'' => execs cl F b ρ'' S2) (g := g) (all := ys) (fun w d ρ o ρ' Z S σ hr hq J lo ln => by
      split at hq
      · cases hq
      · rename_i ρb eb
        obtain ⟨σb, eb2, Jb, hob, hlb⟩ := bind_rep J hr eb o2
        have hno : ∀ i, kd κ i ≠ .sh → σb[i]? = σ[i]? := fun i hi => hob i fun z => hi (o2 i z)
        have mb : Mv κ np S.length σ σb := ⟨hlb, fun i _ h => hno i h, fun i j h e => .inl (by rw [← hno i h]; exact e)⟩
        obtain ⟨o', S', Z', e4, r4⟩ := hb ρb o ρ' Z S σb hq Jb (lo.mv mb ln) ln
        exact ⟨o', S', Z', by simp only [eb2]; exact e4, (r4.after (M := []) Stp.refl mb ln).weak fun i hi => by simpa using hi⟩) xs ys ρ1 o ρ' Z1 S1 σ r2 q I1 lo (Nat.le_trans ln s1.grow) st (fun r hr => by
      have := hg r hr
      subst this
      exact Opd.fixed v3 I1 I.lt o4)
    exact ⟨o', S2, Z2, by simp only [Pv.exec, e1, R.bind_ok, e2]; exact e3, r3.after s1 Mv.refl ln⟩
theorem b_whl (CO : ClOk T clq cl) {t : E} {b : Stms} (ok : okS T κ np fr (.whl t b) = true) (hb : SndB κ np n0 fr (mutSs T b) (execsQ clq T F b) (execs cl F b)) : SndB κ np n0 fr (mutS T (.whl t b)) (execQ clq T F (.whl t b)) (exec cl F (.whl t b)) := fun ρ o ρ' Z S σ q I lo ln => by
  simp only [okS, Bool.and_eq_true] at ok
  simp only [execQ] at q
  simp only [Pv.exec]
  exact wh_go (snd_e CO t) ok.1 hb F ρ o ρ' Z S σ q I lo ln
theorem b_ife (CO : ClOk T clq cl) {t : E} {a b : Stms} (ok : okS T κ np fr (.ife t a b) = true) (ha : SndB κ np n0 fr (mutSs T a) (execsQ clq T F a) (execs cl F a)) (hb : SndB κ np n0 fr (mutSs T b) (execsQ clq T F b) (execs cl F b)) : SndB κ np n0 fr (mutS T (.ife t a b)) (execQ clq T F (.ife t a b)) (exec cl F (.ife t a b)) := fun ρ o ρ' Z S σ q I lo ln => by
  simp only [okS, Bool.and_eq_true] at ok
  simp only [execQ] at q
  obtain ⟨x, ρ1, q1, q⟩ := QR.bind_inv q
  obtain ⟨k, rfl, qk⟩ := isBQ_inv q
  obtain ⟨dx, S1, Z1, e1, I1, s1, r1⟩ := (snd_e CO t).opd ok.1.1 q1 I
  have := vw_bl r1.vw
  subst this
  cases k with
  | true =>
    simp only [if_true] at qk
    obtain ⟨o', S2, Z2, e2, r2⟩ := ha ρ1 o ρ' Z1 S1 σ qk I1 lo (Nat.le_trans ln s1.grow)
    refine ⟨o', S2, Z2, by simp only [Pv.exec, e1, R.bind_ok, isB, if_true]; exact e2, (r2.after s1 Mv.refl ln).weak fun i hi => ?_⟩
    simp only [mutS, List.mem_append] at hi ⊢
    exact hi.elim .inl fun h => .inr (.inl h)
  | false =>
    simp only [Bool.false_eq_true, if_false] at qk
    obtain ⟨o', S2, Z2, e2, r2⟩ := hb ρ1 o ρ' Z1 S1 σ qk I1 lo (Nat.le_trans ln s1.grow)
    refine ⟨o', S2, Z2, by simp only [Pv.exec, e1, R.bind_ok, isB, Bool.false_eq_true, if_false]; exact e2, (r2.after s1 Mv.refl ln).weak fun i hi => ?_⟩
    simp only [mutS, List.mem_append] at hi ⊢
    exact hi.elim .inl fun h => .inr (.inr h)
theorem b_retN : SndB κ np n0 fr (mutS T .retN) (execQ clq T F .retN) (exec cl F .retN) := fun ρ o ρ' Z S σ q I lo ln => by
  simp only [execQ] at q
  cases q
  exact ⟨.ret .non, S, Z, by simp only [Pv.exec], I.fz, Nat.le_refl _, fun _ _ => rfl, fun _ _ _ => rfl, ret_par I, .atom rfl (by simp only [Rep])⟩
theorem b_nil : SndB κ np n0 fr (mutSs T .nil) (execsQ clq T F .nil) (execs cl F .nil) := fun ρ o ρ' Z S σ q I lo ln => by
  simp only [execsQ] at q
  cases q
  exact ⟨.nx σ, S, Z, by simp only [Pv.execs], I, Stp.refl, Mv.refl⟩
theorem b_cons {s : Stm} {ss : Stms} (h1 : SndB κ np n0 fr (mutS T s) (execQ clq T F s) (exec cl F s)) (h2 : SndB κ np n0 fr (mutSs T ss) (execsQ clq T F ss) (execs cl F ss)) : SndB κ np n0 fr (mutSs T (.cons s ss)) (execsQ clq T F (.cons s ss)) (execs cl F (.cons s ss)) := fun ρ o ρ' Z S σ q I lo ln => by
  simp only [execsQ] at q
  obtain ⟨o1, ρ1, q1, q⟩ := QR.bind_inv q
  obtain ⟨o1', S1, Z1, e1, r1⟩ := h1 ρ o1 ρ1 Z S σ q1 I lo ln
  have lft : ∀ i ∈ mutS T s, i ∈ mutSs T (.cons s ss) := fun i hi => List.mem_append_left _ hi
  cases o1 with
  | nx =>
    cases o1' <;> first | exact r1.elim | skip
    rename_i σ1
    obtain ⟨I1, s1, m1⟩ := r1
    obtain ⟨o', S2, Z2, e2, r2⟩ := h2 ρ1 o ρ' Z1 S1 σ1 q I1 (lo.mv m1 ln) (Nat.le_trans ln s1.grow)
    exact ⟨o', S2, Z2, by simp only [Pv.execs, e1, R.bind_ok]; exact e2, r2.after s1 m1 ln⟩
  | bk =>
    cases o1' <;> first | exact r1.elim | skip
    cases q
    exact ⟨_, S1, Z1, by simp only [Pv.execs, e1, R.bind_ok] <;> rfl, r1.weak lft⟩
  | ct =>
    cases o1' <;> first | exact r1.elim | skip
    cases q
    exact ⟨_, S1, Z1, by simp only [Pv.execs, e1, R.bind_ok] <;> rfl, r1.weak lft⟩
  | ret w =>
    cases o1' <;> first | exact r1.elim | skip
    cases q
    exact ⟨_, S1, Z1, by simp only [Pv.execs, e1, R.bind_ok] <;> rfl, r1.weak lft⟩
end
mutual
theorem snd_s (CO : ClOk T clq cl) : ∀ s : Stm, okS T κ np fr s = true → SndB κ np n0 fr (mutS T s) (execQ clq T F s) (exec cl F s)
  | .asg t e, ok => b_asg CO ok
  | .par i j a b, ok => b_par CO ok
  | .ex e, ok => b_ex CO ok
  | .ret e, ok => b_ret CO ok
  | .retN, _ => b_retN
  | .ife t a b, ok => b_ife CO ok (snd_ss CO a (by simp only [okS, Bool.and_eq_true] at ok; exact ok.1.2)) (snd_ss CO b (by simp only [okS, Bool.and_eq_true] at ok; exact ok.2))
  | .for t ik es b, ok => b_for CO ok (snd_ss CO b (by simp only [okS, Bool.and_eq_true] at ok; exact ok.1.2))
  | .whl t b, ok => b_whl CO ok (snd_ss CO b (by simp only [okS, Bool.and_eq_true] at ok; exact ok.2))
  | .brk, _ => fun ρ o ρ' Z S σ q I lo ln => by simp only [execQ] at q; cases q; exact ⟨.bk σ, S, Z, by simp only [Pv.exec], I, Stp.refl, Mv.refl⟩
  | .cnt, _ => fun ρ o ρ' Z S σ q I lo ln => by simp only [execQ] at q; cases q; exact ⟨.ct σ, S, Z, by simp only [Pv.exec], I, Stp.refl, Mv.refl⟩
  | .pas, _ => fun ρ o ρ' Z S σ q I lo ln => by simp only [execQ] at q; cases q; exact ⟨.nx σ, S, Z, by simp only [Pv.exec], I, Stp.refl, Mv.refl⟩
theorem snd_ss (CO : ClOk T clq cl) : ∀ ss : Stms, okSs T κ np fr ss = true → SndB κ np n0 fr (mutSs T ss) (execsQ clq T F ss) (execs cl F ss)
  | .nil, _ => b_nil
  | .cons s ss, ok => b_cons (snd_s CO s (by simp only [okSs, Bool.and_eq_true] at ok; exact ok.1)) (snd_ss CO ss (by simp only [okSs, Bool.and_eq_true] at ok; exact ok.2))
end
/-! ### behind a call -/
section
variable {M M' : List Nat} {σ σ1 σ2 : DEnv} {Z Z' Z1 Z2 : Fz} {S S' S1 S2 : Store} {ρ ρ' : QEnv} {w : W} {d : D} {n : Nat} {e : E}
mutual
theorem rep_lt (f : FzOk Z S) : ∀ (w : W) (d : D), Rep Z w d → d.lt S.length = true
  | .non, _, h => by simp only [Rep] at h; subst h; simp only [D.lt]
  | .bl _, _, h => by simp only [Rep] at h; subst h; simp only [D.lt]
  | .int _, _, h => by simp only [Rep] at h; subst h; simp only [D.lt]
  | .str _, _, h => by simp only [Rep] at h; subst h; simp only [D.lt]
  | .tup ws, _, h => by simp only [Rep] at h; obtain ⟨ds, rfl, q⟩ := h; simp only [D.lt]; exact repL_lt f ws ds q
  | .fzl ws, _, h => by simp only [Rep] at h; obtain ⟨ds, rfl, q⟩ := h; simp only [D.lt]; exact repL_lt f ws ds q
  | .lst ws, _, h => by simp only [Rep] at h; obtain ⟨j, rfl, q⟩ := h; simp only [D.lt]; exact decide_eq_true (f.lt q)
  | .dic ws, _, h => by simp only [Rep] at h; obtain ⟨j, rfl, q⟩ := h; simp only [D.lt]; exact decide_eq_true (f.lt q)
theorem repL_lt (f : FzOk Z S) : ∀ (ws : List W) (ds : List D), RepL Z ws ds → D.lts S.length ds = true
  | [], _, h => by simp only [RepL] at h; subst h; simp only [D.lts]
  | w :: ws, _, h => by
    simp only [RepL] at h
    obtain ⟨d, r, rfl, h1, h2⟩ := h
    simp only [D.lts, rep_lt f w d h1, repL_lt f ws r h2, Bool.and_self]
end
theorem repK_lt (f : FzOk Z S) : ∀ (ws : List (Key × W)) (ds : List (Key × D)), RepK2 Z ws ds → D.lts S.length (ds.map (·.2)) = true
  | [], _, h => by rw [show _ = [] from h]; simp only [List.map_nil, D.lts]
  | (k, w) :: ws, _, h => by
    obtain ⟨d, r, rfl, h1, h2⟩ := h
    simp only [List.map_cons, D.lts, rep_lt f w d h1, repK_lt f ws r h2, Bool.and_self]
theorem repC_lt (f : FzOk Z S) {c : Cell} (h : RepC Z w c) : c.lt S.length = true := by
  unfold RepC at h
  split at h
  · exact repL_lt f _ _ h
  · exact repK_lt f _ _ h
  · exact h.elim
mutual
theorem rep_cut (hz : ∀ j, j < n → Z2 j = Z1 j) : ∀ (w : W) (d : D), Rep Z1 w d → d.lt n = true → Rep Z2 w d
  | .non, _, h, _ => by simp only [Rep] at h ⊢; exact h
  | .bl _, _, h, _ => by simp only [Rep] at h ⊢; exact h
  | .int _, _, h, _ => by simp only [Rep] at h ⊢; exact h
  | .str _, _, h, _ => by simp only [Rep] at h ⊢; exact h
  | .tup ws, _, h, l => by simp only [Rep] at h ⊢; obtain ⟨ds, rfl, q⟩ := h; simp only [D.lt] at l; exact ⟨ds, rfl, repL_cutZ hz ws ds q l⟩
  | .fzl ws, _, h, l => by simp only [Rep] at h ⊢; obtain ⟨ds, rfl, q⟩ := h; simp only [D.lt] at l; exact ⟨ds, rfl, repL_cutZ hz ws ds q l⟩
  | .lst ws, _, h, l => by simp only [Rep] at h ⊢; obtain ⟨j, rfl, q⟩ := h; simp only [D.lt, decide_eq_true_eq] at l; exact ⟨j, rfl, by rw [hz j l]; exact q⟩
  | .dic ws, _, h, l => by simp only [Rep] at h ⊢; obtain ⟨j, rfl, q⟩ := h; simp only [D.lt, decide_eq_true_eq] at l; exact ⟨j, rfl, by rw [hz j l]; exact q⟩
theorem repL_cutZ (hz : ∀ j, j < n → Z2 j = Z1 j) : ∀ (ws : List W) (ds : List D), RepL Z1 ws ds → D.lts n ds = true → RepL Z2 ws ds
  | [], _, h, _ => by simp only [RepL] at h ⊢; exact h
  | w :: ws, _, h, l => by
    simp only [RepL] at h ⊢
    obtain ⟨d, r, rfl, h1, h2⟩ := h
    simp only [D.lts, Bool.and_eq_true] at l
    exact ⟨d, r, rfl, rep_cut hz w d h1 l.1, repL_cutZ hz ws r h2 l.2⟩
end
theorem repK_cutZ (hz : ∀ j, j < n → Z2 j = Z1 j) : ∀ (ws : List (Key × W)) (ds : List (Key × D)), RepK2 Z1 ws ds → D.lts n (ds.map (·.2)) = true → RepK2 Z2 ws ds
  | [], _, h, _ => h
  | (k, w) :: ws, _, h, l => by
    obtain ⟨d, r, rfl, h1, h2⟩ := h
    simp only [List.map_cons, D.lts, Bool.and_eq_true] at l
    exact ⟨d, r, rfl, rep_cut hz w d h1 l.1, repK_cutZ hz ws r h2 l.2⟩
theorem repC_cut (hz : ∀ j, j < n → Z2 j = Z1 j) {c : Cell} (h : RepC Z1 w c) (l : c.lt n = true) : RepC Z2 w c := by
  unfold RepC at h ⊢
  split at h
  · exact repL_cutZ hz _ _ h l
  · exact repK_cutZ hz _ _ h l
  · exact h.elim
/-- what nothing names goes; the rest is as before -/
theorem gc_ok (fz0 : FzOk Z S) (fz1 : FzOk Z1 S1) (gr : S.length ≤ S1.length) (zo : ∀ j, j < S.length → Z1 j = Z j) (un : ∀ j u, Z j = some u → S1[j]? = S[j]?) (res : Res fr S.length Z1 S1 w d) :
    ∃ d' S2 Z2, gc S d S1 = .ok d' S2 ∧ FzOk Z2 S2 ∧ S.length ≤ S2.length ∧ (∀ j, j < S.length → Z2 j = Z j) ∧ (∀ j, j < S.length → S2[j]? = S1[j]?) ∧ Res fr S.length Z2 S2 w d' ∧
      (∀ u x, Own Z1 S1 u x → x.lt S.length = true → (∀ j c, x = .ref j → S[j]? = some c → c.lt S.length = true) → Own Z2 S2 u x) := by
  have plain : ∃ d' S2 Z2, R.ok d S1 = R.ok d' S2 ∧ FzOk Z2 S2 ∧ S.length ≤ S2.length ∧ (∀ j, j < S.length → Z2 j = Z j) ∧ (∀ j, j < S.length → S2[j]? = S1[j]?) ∧ Res fr S.length Z2 S2 w d' ∧ (∀ u x, Own Z1 S1 u x → x.lt S.length = true → (∀ j c, x = .ref j → S[j]? = some c → c.lt S.length = true) → Own Z2 S2 u x) := ⟨d, S1, Z1, rfl, fz1, gr, zo, fun _ _ => rfl, res, fun u x h _ _ => h⟩
  have zr : ∀ j, j < S.length → Z j = Z1 j := fun j h => (zo j h).symm
  unfold gc
  split
  · rename_i hcl
    have tk : ∀ j, j < S.length → (S1.take S.length)[j]? = S1[j]? := fun j h => List.getElem?_take_of_lt h
    have ln : (S1.take S.length).length = S.length := by rw [List.length_take]; omega
    have ow : ∀ (more : List Cell) (Z2 : Fz), (∀ j, j < S.length → Z2 j = Z1 j) → ∀ u x, Own Z1 S1 u x → x.lt S.length = true → (∀ j c, x = .ref j → S[j]? = some c → c.lt S.length = true) → Own Z2 (S1.take S.length ++ more) u x := fun more Z2 hz u x h l hc => by
      rcases h with ⟨a, h⟩ | ⟨j, c, rfl, g1, g2, g3, g4⟩
      · exact .inl ⟨a, rep_cut hz _ _ h l⟩
      · simp only [D.lt, decide_eq_true_eq] at l
        have cl : c.lt S.length = true := by
          rcases hcl.2 j c l g3 with q | q
          · exact hc j c rfl q
          · exact q
        exact .inr ⟨j, c, rfl, g1, by rw [hz j l]; exact g2, by rw [List.getElem?_append_left (by rw [ln]; exact l), tk j l]; exact g3, repC_cut hz g4 cl⟩
    split
    · rename_i hd
      refine ⟨d, _, Z, rfl, fun j u h => ?_, by rw [ln]; exact Nat.le_refl _, fun _ _ => rfl, tk, ?_, fun u x h l hc => by have := ow [] Z zr u x h l hc; rwa [List.append_nil] at this⟩
      · have hj := fz0.lt h
        obtain ⟨c, e1, e2⟩ := fz0 j u h
        exact ⟨c, by rw [tk j hj, un j u h]; exact e1, e2⟩
      · cases fr with
        | false => exact rep_cut zr _ _ res hd
        | true =>
          rcases res with ⟨a, h⟩ | ⟨j, c, rfl, g1, _⟩
          · exact .inl ⟨a, rep_cut zr _ _ h hd⟩
          · simp only [D.lt, decide_eq_true_eq] at hd; omega
    · rename_i hd
      split
      · rename_i i
        split
        · rename_i c ec
          split
          · rename_i hc
            have last : (S1.take S.length ++ [c])[S.length]? = some c := by
              rw [List.getElem?_append_right (by omega), ln, Nat.sub_self]; rfl
            have low : ∀ j, j < S.length → (S1.take S.length ++ [c])[j]? = S1[j]? := fun j h => by rw [List.getElem?_append_left (by rw [ln]; exact h), tk j h]
            have zn : Z S.length = none := by
              cases q : Z S.length with
              | none => rfl
              | some u => exact absurd (fz0.lt q) (Nat.lt_irrefl _)
            cases fr with
            | true =>
              have g : RepC Z1 w c := by
                rcases res with ⟨a, h⟩ | ⟨j, c', e, g1, g2, g3, g4⟩
                · rw [(rep_ref h).1] at a; cases a
                · cases e; rw [ec] at g3; cases g3; exact g4
              refine ⟨.ref S.length, _, Z, rfl, fun j u h => ?_, by rw [List.length_append, ln]; simp, fun _ _ => rfl, low, .inr ⟨S.length, c, rfl, Nat.le_refl _, zn, last, repC_cut zr g hc⟩, ow [c] Z zr⟩
              have hj := fz0.lt h
              obtain ⟨c', e1, e2⟩ := fz0 j u h
              exact ⟨c', by rw [low j hj, un j u h]; exact e1, e2⟩
            | false =>
              have g : RepC Z1 w c := by
                have h : Rep Z1 w (.ref i) := res
                have : Z1 i = some w := by
                  cases w <;> simp only [Rep] at h
                  all_goals (first
                    | (obtain ⟨j', e1, e2⟩ := h; cases e1; exact e2)
                    | (obtain ⟨ds, e1, _⟩ := h; cases e1)
                    | cases h)
                obtain ⟨c', e1, e2⟩ := fz1 i w this
                rw [ec] at e1; cases e1; exact e2
              have m : Mono Z (fun j => if j = S.length then some w else Z j) := fun j u e => by
                by_cases q : j = S.length
                · subst q; rw [zn] at e; cases e
                · simp only [if_neg q]; exact e
              have zr2 : ∀ j, j < S.length → (fun j => if j = S.length then some w else Z j) j = Z1 j := fun j h => by
                have : j ≠ S.length := by omega
                simp only [if_neg this]; exact zr j h
              refine ⟨.ref S.length, _, fun j => if j = S.length then some w else Z j, rfl, fun j u h => ?_, by rw [List.length_append, ln]; simp, fun j h => by
                have : j ≠ S.length := by omega
                simp only [if_neg this], low, ?_, ow [c] _ zr2⟩
              · by_cases q : j = S.length
                · subst q
                  simp only [if_true] at h
                  cases h
                  exact ⟨c, last, (repC_cut zr g hc).mono m⟩
                · simp only [if_neg q] at h
                  have hj := fz0.lt h
                  obtain ⟨c', e1, e2⟩ := fz0 j u h
                  exact ⟨c', by rw [low j hj, un j u h]; exact e1, e2.mono m⟩
              · show Rep _ w _
                cases w <;> simp only [RepC] at g <;> simp only [Rep] <;> first | exact g.elim | exact ⟨S.length, rfl, by simp only [if_true]⟩
          · exact plain
        · exact plain
      · exact plain
  · exact plain
end
theorem mask_get : ∀ (ks : List Kd) (os : QEnv) (p : Nat) (w : W), kd ks p = .ow → os[p]? = some (some w) → (maskQ ks os)[p]? = some (some w)
  | [], os, p, w, h, _ => by simp [kd] at h
  | k :: ks, [], p, w, _, e => by simp at e
  | k :: ks, o :: os, 0, w, h, e => by
    rw [kd_zero] at h
    simp at e
    subst h; subst e
    simp [maskQ]
  | k :: ks, o :: os, p + 1, w, h, e => by
    rw [kd_succ] at h
    rw [List.getElem?_cons_succ] at e
    simp only [maskQ, List.getElem?_cons_succ]
    exact mask_get ks os p w h e
theorem plain_lookup {f : Str} {fn : QFn} : ∀ {T : QTbl}, T.lookup f = some fn → T.plain.lookup f = some ⟨fn.np, fn.ns, fn.body⟩
  | [], h => by simp at h
  | (g, fn') :: T, h => by
    unfold QTbl.plain
    rw [List.map_cons, List.lookup_cons]
    rw [List.lookup_cons] at h
    split at h
    · rename_i e; cases h; simp only [e]
    · rename_i e; simp only [e]; exact plain_lookup h
theorem call_ok (hT : ∀ p ∈ T, okFn T p.2 = true) : ∀ k, ClOk T (callQ T F k) (call T.plain F k)
  | 0 => fun f fn ws w os hl q => by simp only [callQ] at q; cases q
  | k + 1 => fun f fn ws w os hl q Z S ds I => by
    have CO := call_ok hT k
    simp only [callQ, hl] at q
    split at q
    · rename_i hc
      obtain ⟨hn, hs, hk⟩ := hc
      have hds : ds.length = fn.np := by
        have := I.len
        rw [List.length_map, List.length_map] at this
        omega
      have okb : okSs T fn.kd fn.np fn.fresh fn.body = true := hT (f, fn) (PySem.mem_of_lookup hl)
      have I0 : Inv fn.kd Z S (ws.map some ++ List.replicate (fn.ns - fn.np) none) (ds.map some ++ List.replicate (fn.ns - fn.np) none) := by
        have gq : ∀ i w, (ws.map some ++ List.replicate (fn.ns - fn.np) none)[i]? = some (some w) → (ws.map some)[i]? = some (some w) := fun i w e => by
          by_cases l : i < ws.length
          · rwa [List.getElem?_append_left (by rw [List.length_map]; exact l)] at e
          · rw [List.getElem?_append_right (by rw [List.length_map]; omega)] at e
            have := List.mem_of_getElem? e
            have := List.eq_of_mem_replicate this
            cases this
        have gd : ∀ i w, (ds.map some ++ List.replicate (fn.ns - fn.np) none)[i]? = some (some w) → (ds.map some)[i]? = some (some w) := fun i w e => by
          by_cases l : i < ds.length
          · rwa [List.getElem?_append_left (by rw [List.length_map]; exact l)] at e
          · rw [List.getElem?_append_right (by rw [List.length_map]; omega)] at e
            have := List.mem_of_getElem? e
            have := List.eq_of_mem_replicate this
            cases this
        have up : ∀ {i d}, (ds.map some)[i]? = some (some d) → (ds.map some ++ List.replicate (fn.ns - fn.np) none)[i]? = some (some d) := fun {i d} e => by
          rw [List.getElem?_append_left (List.getElem?_eq_some_iff.mp e).1]; exact e
        refine ⟨by simp only [List.length_append, List.length_map, List.length_replicate]; omega, I.fz, fun i w e => ?_, fun i j h e => I.lt i j h (gd _ _ e), fun i i' j h1 h2 h3 h4 h5 => I.dis i i' j h1 h2 h3 (gd _ _ h4) (gd _ _ h5), fun i j h e => I.nz i j h (gd _ _ e), fun i d h e => ?_⟩
        · obtain ⟨d, e1, e2⟩ := I.slot i w (gq i w e)
          exact ⟨d, up e1, e2⟩
        · obtain ⟨w, e1⟩ := I.full i d h (gd _ _ e)
          exact ⟨w, by rw [List.getElem?_append_left (List.getElem?_eq_some_iff.mp e1).1]; exact e1⟩
      have L0 : Loc fn.kd fn.np S.length (ds.map some ++ List.replicate (fn.ns - fn.np) none) := fun i j h1 h2 e => by
        rw [List.getElem?_append_right (by rw [List.length_map]; omega)] at e
        have := List.mem_of_getElem? e
        have := List.eq_of_mem_replicate this
        cases this
      have dsu : ∀ {p d}, ds[p]? = some d → (ds.map some ++ List.replicate (fn.ns - fn.np) none)[p]? = some (some d) := fun {p d} e => by
        have l := (List.getElem?_eq_some_iff.mp e).1
        rw [List.getElem?_append_left (by rw [List.length_map]; exact l), List.getElem?_map, e]; rfl
      cases eb : execsQ (callQ T F k) T F fn.body (ws.map some ++ List.replicate (fn.ns - fn.np) none) with
      | no => rw [eb] at q; cases q
      | ex c fs ρ' => rw [eb] at q; cases q
      | ok o ρ' =>
        rw [eb] at q
        obtain ⟨o', S1, Z1, e1, r1⟩ := snd_ss (n0 := S.length) CO fn.body okb _ o ρ' Z S _ eb I0 L0 (Nat.le_refl _)
        have fin1 : ∀ {d : D}, RetR fn.kd fn.np S.length fn.fresh (mutSs T fn.body) (ds.map some ++ List.replicate (fn.ns - fn.np) none) S w ρ' d S1 Z Z1 → os = maskQ fn.kd (ρ'.take fn.np) → ∃ d' S' Z', gc S d S1 = .ok d' S' ∧ FzOk Z' S' ∧ S.length ≤ S'.length ∧ (∀ j, j < S.length → Z' j = Z j) ∧ (∀ j, j < S.length → (∀ p, kd fn.kd p = .ow → ds[p]? ≠ some (.ref j)) → S'[j]? = S[j]?) ∧
            (∀ p d', kd fn.kd p = .ow → ds[p]? = some d' → ∃ w', os[p]? = some (some w') ∧ Own Z' S' w' d') ∧ Res fn.fresh S.length Z' S' w d' := fun {d} R hos => by
          have keep : ∀ j, j < S.length → (∀ p, kd fn.kd p = .ow → ds[p]? ≠ some (.ref j)) → S1[j]? = S[j]? := fun j hj h => R.same j hj fun i _ ho z => by
            by_cases l : i < fn.np
            · rw [List.getElem?_append_left (by rw [List.length_map]; omega)] at z
              exact h i ho (map_some_get z)
            · have := L0 i j (by omega) ho z
              omega
          have un : ∀ j u, Z j = some u → S1[j]? = S[j]? := fun j u h => keep j (I.fz.lt h) fun p hp z => by
            have := I.nz p j hp (by rw [List.getElem?_map, z]; rfl)
            rw [h] at this; cases this
          obtain ⟨d', S2, Z2, g1, g2, g3, g4, g5, g6, g7⟩ := gc_ok I.fz R.fz R.grow R.zo un R.res
          refine ⟨d', S2, Z2, g1, g2, g3, g4, fun j hj h => by rw [g5 j hj]; exact keep j hj h, fun p x hp hx => ?_, g6⟩
          have lp : p < fn.np := by have := (List.getElem?_eq_some_iff.mp hx).1; omega
          obtain ⟨w', e2, ho⟩ := R.par p x lp hp (dsu hx)
          refine ⟨w', by rw [hos]; exact mask_get _ _ _ _ hp (by rw [List.getElem?_take_of_lt lp]; exact e2), g7 w' x ho ?_ fun j c ex hj => ?_⟩
          · obtain ⟨w0, f0⟩ := I.full p x hp (by rw [List.getElem?_map, hx]; rfl)
            obtain ⟨x', f1, f2⟩ := I.slot p w0 f0
            rw [List.getElem?_map, hx] at f1
            cases f1
            rw [hp] at f2
            rcases f2 with ⟨_, f2⟩ | ⟨j, c, rfl, _, _, f3, _⟩
            · exact rep_lt I.fz _ _ f2
            · simp only [D.lt, decide_eq_true_eq]; exact (List.getElem?_eq_some_iff.mp f3).1
          · subst ex
            obtain ⟨w0, f0⟩ := I.full p _ hp (by rw [List.getElem?_map, hx]; rfl)
            obtain ⟨x', f1, f2⟩ := I.slot p w0 f0
            rw [List.getElem?_map, hx] at f1
            cases f1
            rw [hp] at f2
            rcases f2 with ⟨a, f2⟩ | ⟨j', c', e3, _, _, f3, f4⟩
            · rw [(rep_ref f2).1] at a; cases a
            · cases e3
              rw [hj] at f3
              cases f3
              exact repC_lt I.fz f4
        have cal : ∀ r, execs (call T.plain F k) F fn.body (ds.map some ++ List.replicate (fn.ns - fn.np) none) S = r → call T.plain F (k + 1) f ds S = fin S r := fun r h => by
          rw [← h]
          simp only [Pv.call, plain_lookup hl]
          rw [if_pos ⟨hds, hs⟩]
        cases o with
        | nx =>
          cases o' <;> first | exact r1.elim | skip
          rename_i σ'
          cases q
          obtain ⟨I1, s1, m1⟩ := r1
          obtain ⟨d', S', Z', g, rest⟩ := fin1 (d := .non) ⟨I1.fz, s1.grow, s1.zo, s1.same, fun i d h1 h2 h3 => ret_par (np := fn.np) I1 i d h1 h2 (by rw [m1.par i h1 (by rw [h2]; decide)]; exact h3), .atom rfl (by simp only [Rep])⟩ rfl
          exact ⟨d', S', Z', by rw [cal _ e1]; exact g, rest⟩
        | ret w1 =>
          cases o' <;> first | exact r1.elim | skip
          rename_i d1
          cases q
          obtain ⟨d', S', Z', g, rest⟩ := fin1 (d := d1) r1 rfl
          exact ⟨d', S', Z', by rw [cal _ e1]; exact g, rest⟩
        | bk => cases q
        | ct => cases q
    · cases q
/-- the law's call: from the run over values -/
theorem run_of {T : QTbl} {F k : Nat} {nm : Str} {fn : QFn} (hT : ∀ p ∈ T, okFn T p.2 = true) (hl : T.lookup nm = some fn) (hk : kd fn.kd 0 = .sh) {ns : List Int} {os : QEnv} (h : callQ T F k nm [.fzl (ns.map .int)] = .ok (.bl true) os) : ∃ S, call T.plain F k nm [.fzl (ns.map .int)] [] = .ok (.bl true) S := by
  have I : Inv fn.kd (fun _ => none) [] [some (.fzl (ns.map W.int))] [some (.fzl (ns.map D.int))] := by
    have z : ∀ {i : Nat} {x : D}, ([some (D.fzl (ns.map D.int))] : DEnv)[i]? = some (some x) → i = 0 ∧ x = .fzl (ns.map D.int) := fun {i x} e => by
      cases i with
      | zero => simp at e; exact ⟨rfl, e.symm⟩
      | succ i => simp at e
    refine ⟨rfl, fun j w h => (by cases h), fun i w e => ?_, fun i j _ e => (by cases (z e).2), fun i i' j _ _ _ e => (by cases (z e).2), fun i j _ e => rfl, fun i d _ e => ?_⟩
    · cases i with
      | zero =>
        simp at e
        subst e
        refine ⟨_, rfl, ?_⟩
        rw [hk]
        show Rep _ _ _
        simp only [Rep]
        exact ⟨_, rfl, repL_map (fun a => by simp only [Rep]) _⟩
      | succ i => simp at e
    · obtain ⟨rfl, _⟩ := z e
      exact ⟨_, rfl⟩
  obtain ⟨d, S', Z', e, _, _, _, _, _, r⟩ := call_ok hT k nm fn _ _ os hl h (fun _ => none) [] [.fzl (ns.map .int)] I
  have : d = .bl true := by
    unfold Res at r
    split at r
    · have := Frs.res r rfl
      simpa only [Rep] using this
    · simpa only [Rep] using r
  subst this
  exact ⟨S', e⟩
end Pq
set_option Elab.async false
set_option linter.all false
set_option maxRecDepth 100000
set_option maxHeartbeats 1000000
/-! reckoning over values -/
namespace Pq
open PySem PySem.Spec PyProof.Rows L2 Pv
/-- the table's row -/
abbrev has (T : QTbl) (f : Str) (fn : QFn) : Prop := T.lookup f = some fn
@[irreducible] def WP {α : Type} (r : QR α) (P : α → QEnv → Prop) : Prop := match r with
  | .ok a ρ => P a ρ
  | _ => False
section
variable {α β : Type} {P P' : α → QEnv → Prop}
theorem wp_ok (a : α) (ρ : QEnv) : WP (.ok a ρ) P = P a ρ := by unfold WP; rfl
theorem wp_no : WP (.no : QR α) P = False := by unfold WP; rfl
theorem wp_bind (r : QR β) (f : β → QEnv → QR α) : WP (r.bind f) P = WP r fun b ρ => WP (f b ρ) P := by cases r <;> unfold WP <;> rfl
theorem wp_isB (b : Bool) (f : Bool → QR α) : WP (isBQ (.bl b) f) P = WP (f b) P := rfl
theorem wp_opt (a : α) (ρ : QEnv) : WP (optQ (some a) ρ) P = P a ρ := by unfold optQ; rw [wp_ok]
theorem WP.mono {r : QR α} (h : WP r P) (f : ∀ a ρ, P a ρ → P' a ρ) : WP r P' := by
  unfold WP at h ⊢
  cases r with
  | ok a S => exact f a S h
  | _ => exact h
theorem WP.ok_of {r : QR α} (h : WP r P) : ∃ a ρ, r = .ok a ρ ∧ P a ρ := by
  unfold WP at h
  cases r with
  | ok a S => exact ⟨a, S, rfl, h⟩
  | _ => exact h.elim
theorem WP.of_eq {r : QR α} {a : α} {ρ : QEnv} (e : r = .ok a ρ) (h : P a ρ) : WP r P := by rw [e, wp_ok]; exact h
theorem wp_noex {r : QR α} (h : WP r P) : WP r.noex P := by
  unfold WP at h ⊢
  cases r with
  | ok a S => exact h
  | _ => exact h
theorem wp_back {P : W → QEnv → Prop} (r : QR W) (ρ : QEnv) (as : List (Nat ⊕ W)) : WP (r.back ρ as) P = WP r fun w os => P w (putAs ρ as os) := by cases r <;> unfold WP <;> rfl
theorem back_ok (w : W) (os ρ : QEnv) (as : List (Nat ⊕ W)) : (QR.ok w os).back ρ as = .ok w (putAs ρ as os) := rfl
theorem bind_ok (a : β) (ρ : QEnv) (f : β → QEnv → QR α) : (QR.ok a ρ).bind f = f a ρ := rfl
theorem bind_no (f : β → QEnv → QR α) : (QR.no).bind f = .no := rfl
theorem noex_ok (a : α) (ρ : QEnv) : (QR.ok a ρ).noex = .ok a ρ := rfl
theorem isB_ok (b : Bool) (f : Bool → QR α) : isBQ (.bl b) f = f b := rfl
theorem opt_ok (a : α) (ρ : QEnv) : optQ (some a) ρ = .ok a ρ := rfl
end
section
variable {clq : QCl} {T : QTbl} {F k : Nat} {P : QO → QEnv → Prop}
/-! ### statements, one by one -/
theorem wp_cons {s : Stm} {ss : Stms} {ρ : QEnv} (h : WP (execQ clq T F s ρ) fun o ρ' => match o with
    | .nx => WP (execsQ clq T F ss ρ') P
    | o => P o ρ') : WP (execsQ clq T F (.cons s ss) ρ) P := by
  simp only [execsQ, wp_bind]
  refine h.mono fun o ρ' h => ?_
  cases o with
  | nx => exact h
  | _ => rw [wp_ok]; exact h
theorem wp_nil {ρ : QEnv} (h : P .nx ρ) : WP (execsQ clq T F .nil ρ) P := by simp only [execsQ, wp_ok]; exact h
/-! ### loops -/
theorem wp_for {body : W → QEnv → QR QO} {all : List W} (I : Nat → QEnv → Prop)
    (step : ∀ i x ρ, all[i]? = some x → I i ρ → WP (body x ρ) fun o ρ' => match o with
      | .nx => I (i + 1) ρ'
      | .ct => I (i + 1) ρ'
      | .bk => P .nx ρ'
      | .ret d => P (.ret d) ρ')
    (done : ∀ ρ, I all.length ρ → P .nx ρ) : ∀ (xs : List W) (i : Nat) (ρ : QEnv), all.drop i = xs → i ≤ all.length → I i ρ → WP (forQ body xs ρ) P
  | [], i, ρ, e, hi, h => by
    have hl : all.length ≤ i := List.drop_eq_nil_iff.mp e
    have : i = all.length := by omega
    subst this
    simp only [forQ, wp_ok]
    exact done _ h
  | x :: xs, i, ρ, e, hi, h => by
    have hlt : i < all.length := by
      by_cases q : i < all.length
      · exact q
      · rw [List.drop_eq_nil_iff.mpr (by omega)] at e; cases e
    rw [List.drop_eq_getElem_cons hlt] at e
    injection e with e1 e2
    simp only [forQ, wp_bind]
    refine (step i x ρ (by rw [List.getElem?_eq_getElem hlt, e1]) h).mono fun o ρ' h' => ?_
    cases o with
    | nx => exact wp_for I step done xs (i + 1) ρ' e2 (by omega) h'
    | ct => exact wp_for I step done xs (i + 1) ρ' e2 (by omega) h'
    | bk => simp only [wp_ok]; exact h'
    | ret d => simp only [wp_ok]; exact h'
theorem wp_forS {t : Tg} {ik : IK} {es : Es} {b : Stms} {ρ ρ1 : QEnv} {ds xs : List W} (I : Nat → QEnv → Prop) (he : evsQ clq T es ρ = .ok ds ρ1) (hi : iterQ ik ds = some xs) (h0 : I 0 ρ1)
    (step : ∀ i x ρ, xs[i]? = some x → I i ρ → WP (match bindQ t x ρ with
        | none => .no
        | some ρ'' => execsQ clq T F b ρ'') fun o ρ' => match o with
      | .nx => I (i + 1) ρ'
      | .ct => I (i + 1) ρ'
      | .bk => P .nx ρ'
      | .ret d => P (.ret d) ρ')
    (done : ∀ ρ, I xs.length ρ → P .nx ρ) : WP (execQ clq T F (.for t ik es b) ρ) P := by
  simp only [execQ, wp_bind, he, wp_ok, hi]
  exact wp_for I step done xs 0 ρ1 rfl (Nat.zero_le _) h0
theorem wp_wh {tst : QEnv → QR W} {body : QEnv → QR QO} (I : Nat → QEnv → Prop)
    (step : ∀ m ρ, I m ρ → WP (tst ρ) fun d ρ1 => (d = .bl false ∧ P .nx ρ1) ∨ (d = .bl true ∧ WP (body ρ1) fun o ρ2 => match o with
      | .nx => ∃ m', m' < m ∧ I m' ρ2
      | .ct => ∃ m', m' < m ∧ I m' ρ2
      | .bk => P .nx ρ2
      | .ret d => P (.ret d) ρ2)) : ∀ (n m : Nat) (ρ : QEnv), m < n → I m ρ → WP (whQ tst body n ρ) P
  | 0, m, _, h, _ => absurd h (Nat.not_lt_zero m)
  | n + 1, m, ρ, h, i => by
    simp only [whQ, wp_bind]
    refine (step m ρ i).mono fun d ρ1 q => ?_
    rcases q with ⟨rfl, q⟩ | ⟨rfl, q⟩
    · rw [wp_isB]; simp only [Bool.false_eq_true, if_false, wp_ok]; exact q
    · rw [wp_isB]
      simp only [if_true, wp_bind]
      refine q.mono fun o ρ2 q => ?_
      cases o with
      | nx => obtain ⟨m', l, q⟩ := q; exact wp_wh I step n m' ρ2 (by omega) q
      | ct => obtain ⟨m', l, q⟩ := q; exact wp_wh I step n m' ρ2 (by omega) q
      | bk => simp only [wp_ok]; exact q
      | ret d => simp only [wp_ok]; exact q
theorem wp_lc {f : W → QEnv → QR (Option W)} {all : List W} {P : List W → QEnv → Prop} (I : Nat → List W → QEnv → Prop)
    (step : ∀ i x ys ρ, all[i]? = some x → I i ys ρ → WP (f x ρ) fun o ρ' => I (i + 1) (ys ++ o.toList) ρ')
    (done : ∀ ys ρ, I all.length ys ρ → P ys ρ) : ∀ (xs : List W) (i : Nat) (ys : List W) (ρ : QEnv), all.drop i = xs → i ≤ all.length → I i ys ρ → WP (lcQ f xs ρ) fun zs ρ' => P (ys ++ zs) ρ'
  | [], i, ys, ρ, e, hi, h => by
    have hl : all.length ≤ i := List.drop_eq_nil_iff.mp e
    have : i = all.length := by omega
    subst this
    simp only [lcQ, wp_ok, List.append_nil]
    exact done _ _ h
  | x :: xs, i, ys, ρ, e, hi, h => by
    have hlt : i < all.length := by
      by_cases q : i < all.length
      · exact q
      · rw [List.drop_eq_nil_iff.mpr (by omega)] at e; cases e
    rw [List.drop_eq_getElem_cons hlt] at e
    injection e with e1 e2
    simp only [lcQ, wp_bind]
    refine (step i x ys ρ (by rw [List.getElem?_eq_getElem hlt, e1]) h).mono fun o ρ' h' => ?_
    refine (wp_lc I step done xs (i + 1) _ ρ' e2 (by omega) h').mono fun zs ρ2 q => ?_
    simp only [wp_ok]
    cases o with
    | none => simpa using q
    | some y => simpa using q
/-! ### comprehensions that change nothing -/
theorem lcQ_pure {f : W → QEnv → QR (Option W)} {g : W → Option W} {J : QEnv → Prop} : ∀ (xs : List W) (ρ : QEnv), (∀ x ∈ xs, ∀ ρ, J ρ → ∃ ρ', f x ρ = .ok (g x) ρ' ∧ J ρ') → J ρ → ∃ ρ', lcQ f xs ρ = .ok (xs.filterMap g) ρ' ∧ J ρ'
  | [], ρ, _, j => ⟨ρ, rfl, j⟩
  | x :: xs, ρ, h, j => by
    obtain ⟨ρ1, e1, j1⟩ := h x (by simp) ρ j
    obtain ⟨ρ2, e2, j2⟩ := lcQ_pure xs ρ1 (fun y hy => h y (by simp [hy])) j1
    refine ⟨ρ2, ?_, j2⟩
    simp only [lcQ, e1, bind_ok, e2, List.filterMap_cons]
    cases g x <;> rfl
theorem wipe_idem {own : List Nat} {ρ ρ0 : QEnv} (h : wipeQ ρ own = wipeQ ρ0 own) : backQ ρ0 ρ own = ρ0 := by
  apply List.ext_getElem?
  intro i
  have hl : ρ.length = ρ0.length := by rw [← wipeQ_len ρ own, h, wipeQ_len]
  rw [backQ_get]
  have := congrArg (·[i]?) h
  simp only [wipeQ_get] at this
  by_cases c : i ∈ own ∧ i < ρ.length
  · rw [if_pos c]
    rw [List.getElem?_eq_getElem (by omega : i < ρ0.length)]; rfl
  · rw [if_neg c] at this ⊢
    rw [if_neg (by rw [← hl]; exact c)] at this
    exact this
theorem wipe_bind {own : List Nat} {t : Tg} {x : W} {ρ ρ0 ρb : QEnv} (ht : ∀ i ∈ tgSl t, i ∈ own) (h : wipeQ ρ own = wipeQ ρ0 own) (hb : bindQ t x (wipeQ ρ own) = some ρb) : wipeQ ρb own = wipeQ ρ0 own := by
  have key : ∀ ρb : QEnv, ρb.length = ρ.length → (∀ i, i ∉ own → ρb[i]? = (wipeQ ρ own)[i]?) → wipeQ ρb own = wipeQ ρ0 own := fun ρb hl hk => by
    rw [← h]
    apply List.ext_getElem?
    intro i
    rw [wipeQ_get, wipeQ_get, hl]
    by_cases c : i ∈ own ∧ i < ρ.length
    · rw [if_pos c, if_pos c]
    · rw [if_neg c, if_neg c]
      by_cases d : i ∈ own
      · have : ρ.length ≤ i := by
          by_cases z : i < ρ.length
          · exact absurd ⟨d, z⟩ c
          · omega
        rw [List.getElem?_eq_none (by omega), List.getElem?_eq_none this]
      · rw [hk i d, wipeQ_get, if_neg fun z => d z.1]
  cases t with
  | nm i =>
    simp only [bindQ] at hb
    split at hb
    · cases hb
      refine key _ (by rw [List.length_set, wipeQ_len]) fun i' hi' => List.getElem?_set_ne (by rintro rfl; exact hi' (ht _ (by simp [tgSl])))
    · cases hb
  | tp is =>
    simp only [bindQ] at hb
    split at hb
    · split at hb
      · cases hb
        refine key _ (by rw [fold_len, wipeQ_len]) fun i' hi' => fold_other _ _ fun p hp z => hi' (ht _ (z ▸ (List.of_mem_zip (a := p.1) (b := p.2) hp).1))
      · cases hb
    · cases hb
/-- [elt for t in es], nothing changed -/
theorem ev_map {elt : E} {t : Tg} {ik : IK} {es : Es} {own : List Nat} {ρ : QEnv} {ds xs : List W} (f : W → W) (he : evsQ clq T es ρ = .ok ds ρ) (hi : iterQ ik ds = some xs) (hl : xs.length ≤ sizeLine) (ht : ∀ i ∈ tgSl t, i ∈ own)
    (h : ∀ x ∈ xs, ∃ ρb, bindQ t x (wipeQ ρ own) = some ρb ∧ evQ clq T elt ρb = .ok (f x) ρb) : evQ clq T (.lc elt t ik es .no own) ρ = .ok (.lst (xs.map f)) ρ := by
  obtain ⟨ρ', e1, e2⟩ := lcQ_pure (f := fun d ρ2 => match bindQ t d (wipeQ ρ2 own) with
        | none => .no
        | some ρ' => (evQ clq T elt ρ').bind fun y ρ3 => .ok (some y) ρ3) (g := fun x => some (f x)) (J := fun ρ' => wipeQ ρ' own = wipeQ ρ own) xs ρ (fun x hx ρ1 j => by
    obtain ⟨ρb, h1, h2⟩ := h x hx
    refine ⟨ρb, ?_, wipe_bind ht j (by rw [j]; exact h1)⟩
    simp only [j, h1, h2, bind_ok]) rfl
  simp only [evQ, he, bind_ok, hi]
  refine (congrArg (fun r => QR.bind (QR.noex r) (fun ys ρ2 => if xs.length ≤ sizeLine then QR.ok (W.lst ys) (backQ ρ ρ2 own) else QR.no)) e1).trans ?_
  simp only [noex_ok, bind_ok, if_pos hl, wipe_idem e2]
  congr 2
  induction xs with
  | nil => rfl
  | cons x xs ih => simp
/-- [elt for t in es if c], nothing changed -/
theorem ev_filter {elt c : E} {t : Tg} {ik : IK} {es : Es} {own : List Nat} {ρ : QEnv} {ds xs : List W} (p : W → Bool) (f : W → W) (he : evsQ clq T es ρ = .ok ds ρ) (hi : iterQ ik ds = some xs) (hl : xs.length ≤ sizeLine) (ht : ∀ i ∈ tgSl t, i ∈ own)
    (h : ∀ x ∈ xs, ∃ ρb, bindQ t x (wipeQ ρ own) = some ρb ∧ evQ clq T c ρb = .ok (.bl (p x)) ρb ∧ (p x = true → evQ clq T elt ρb = .ok (f x) ρb)) : evQ clq T (.lc elt t ik es (.so c) own) ρ = .ok (.lst ((xs.filter p).map f)) ρ := by
  obtain ⟨ρ', e1, e2⟩ := lcQ_pure (f := fun d ρ2 => match bindQ t d (wipeQ ρ2 own) with
        | none => .no
        | some ρ' => (evQ clq T c ρ').bind fun t ρ3 => isBQ t fun b => if b = true then (evQ clq T elt ρ3).bind fun y ρ4 => .ok (some y) ρ4 else .ok none ρ3) (g := fun x => if p x = true then some (f x) else none) (J := fun ρ' => wipeQ ρ' own = wipeQ ρ own) xs ρ (fun x hx ρ1 j => by
    obtain ⟨ρb, h1, h2, h3⟩ := h x hx
    refine ⟨ρb, ?_, wipe_bind ht j (by rw [j]; exact h1)⟩
    simp only [j, h1, h2, bind_ok, isB_ok]
    cases hp : p x with
    | true => simp only [if_true, h3 hp, bind_ok]
    | false => simp only [Bool.false_eq_true, if_false]) rfl
  simp only [evQ, he, bind_ok, hi]
  refine (congrArg (fun r => QR.bind (QR.noex r) (fun ys ρ2 => if xs.length ≤ sizeLine then QR.ok (W.lst ys) (backQ ρ ρ2 own) else QR.no)) e1).trans ?_
  simp only [noex_ok, bind_ok, if_pos hl, wipe_idem e2]
  congr 2
  clear e1 e2 hi he hl h
  induction xs with
  | nil => rfl
  | cons x xs ih => cases hp : p x <;> simp [hp, ih]
/-- [elt for t in es], the elements change what is owned -/
theorem wp_lcS {elt : E} {t : Tg} {ik : IK} {es : Es} {own : List Nat} {ρ ρ1 : QEnv} {ds xs : List W} {P : W → QEnv → Prop} (I : Nat → List W → QEnv → Prop) (he : evsQ clq T es ρ = .ok ds ρ1) (hi : iterQ ik ds = some xs) (hl : xs.length ≤ sizeLine) (h0 : I 0 [] ρ1)
    (step : ∀ i x ys ρ, xs[i]? = some x → I i ys ρ → WP (match bindQ t x (wipeQ ρ own) with
        | none => .no
        | some ρ' => evQ clq T elt ρ') fun y ρ' => I (i + 1) (ys ++ [y]) ρ')
    (done : ∀ ys ρ, I xs.length ys ρ → P (.lst ys) (backQ ρ1 ρ own)) : WP (evQ clq T (.lc elt t ik es .no own) ρ) P := by
  simp only [evQ, wp_bind, he, wp_ok, hi]
  have := wp_lc (f := fun d ρ2 => match bindQ t d (wipeQ ρ2 own) with
        | none => .no
        | some ρ' => (evQ clq T elt ρ').bind fun y ρ3 => .ok (some y) ρ3) (P := fun ys ρ2 => P (.lst ys) (backQ ρ1 ρ2 own)) I (fun i x ys ρ hx h => by
      have s := step i x ys ρ hx h
      cases hb : bindQ t x (wipeQ ρ own) with
      | none => rw [hb] at s; simp only [wp_no] at s
      | some ρ' =>
        rw [hb] at s
        simp only [wp_bind]
        refine s.mono fun y ρ2 q => ?_
        simp only [wp_ok]
        exact q) done xs 0 [] ρ1 rfl (Nat.zero_le _) h0
  refine wp_noex (this.mono fun ys ρ2 q => ?_)
  simp only [List.nil_append] at q
  simp only [if_pos hl, wp_ok]
  exact q
/-! ### calls -/
theorem wp_call {f : Str} {fn : QFn} {ds : List W} {P : W → QEnv → Prop} (hl : T.lookup f = some fn) (hn : ds.length = fn.np ∧ fn.np ≤ fn.ns ∧ fn.kd.length = fn.ns)
    (h : WP (execsQ (callQ T F k) T F fn.body (ds.map some ++ List.replicate (fn.ns - fn.np) none)) fun o ρ' => match o with
      | .ret d => P d (maskQ fn.kd (ρ'.take fn.np))
      | .nx => P .non (maskQ fn.kd (ρ'.take fn.np))
      | _ => False) : WP (callQ T F (k + 1) f ds) P := by
  simp only [callQ, hl, if_pos hn]
  cases e : execsQ (callQ T F k) T F fn.body (ds.map some ++ List.replicate (fn.ns - fn.np) none) with
  | ok o ρ' =>
    rw [e] at h
    simp only [wp_ok] at h
    cases o <;> simp only [finQ, wp_ok] <;> first | exact h | exact h.elim
  | ex c fs ρ' => rw [e] at h; unfold WP at h; exact h.elim
  | no => rw [e] at h; simp only [wp_no] at h
/-- a call told by a run that changes nothing -/
theorem call_eq {f : Str} {ds : List W} {w : W} {os : QEnv} (h : WP (callQ T F k f ds) fun d ρ => d = w ∧ ρ = os) : callQ T F k f ds = .ok w os := by
  obtain ⟨a, ρ, e, rfl, rfl⟩ := h.ok_of
  exact e
end
end Pq
set_option linter.all false
set_option maxRecDepth 100000
namespace Pq
open PySem PySem.Spec PyProof.Rows L2 Pv
/-- is_whole: "thing" -/
def n_is_whole : List Str := ["thing"]
def b_is_whole : Stms := (.cons (.ret (.and (.isi (.var 0) .int) (.not (.isi (.var 0) .bool)))) .nil)
def f_is_whole : QFn := ⟨1, 1, [.sh], true, b_is_whole⟩
/-- is_key: "thing", ".0", "sign" -/
def n_is_key : List Str := ["thing", ".0", "sign"]
def c_is_key_1 : E := (.lc (.cmp .In (.var 2) (.glb ("LETTERS" : Str) (.str ("abcdefghijklmnopqrstuvwxyz" : Str)))) (.nm 2) .plain (.cons (.var 0) .nil) .no [1, 2])
def b_is_key : Stms := (.cons (.ret (.and (.isi (.var 0) .str) (.and (.chn .LtE .LtE (.cst (.int (1))) (.blt .len (.cons (.var 0) .nil)) (.glb ("LONGEST" : Str) (.int (8)))) (.blt .all (.cons c_is_key_1 .nil))))) .nil)
def f_is_key : QFn := ⟨1, 3, [.sh, .sh, .sh], true, b_is_key⟩
/-- is_value: "thing" -/
def n_is_value : List Str := ["thing"]
def b_is_value : Stms := (.cons (.ret (.and (.cal ("is_whole" : Str) (.cons (.var 0) .nil)) (.cmp .Lt (.blt .abs (.cons (.var 0) .nil)) (.glb ("GREATEST" : Str) (.int (100000000000000000000)))))) .nil)
def f_is_value : QFn := ⟨1, 1, [.sh], true, b_is_value⟩
/-- is_thing: "thing" -/
def n_is_thing : List Str := ["thing"]
def b_is_thing : Stms := (.cons (.ret (.and (.isi (.var 0) .tuple) (.and (.cmp .Eq (.blt .len (.cons (.var 0) .nil)) (.cst (.int (2)))) (.and (.cal ("is_key" : Str) (.cons (.sub (.var 0) (.cst (.int (0)))) .nil)) (.cal ("is_value" : Str) (.cons (.sub (.var 0) (.cst (.int (1)))) .nil)))))) .nil)
def f_is_thing : QFn := ⟨1, 1, [.sh], true, b_is_thing⟩
/-- are_things: "thing", ".0", "one", "k" -/
def n_are_things : List Str := ["thing", ".0", "one", "k"]
def c_are_things_1 : E := (.lc (.cal ("is_thing" : Str) (.cons (.var 2) .nil)) (.nm 2) .plain (.cons (.var 0) .nil) .no [1, 2])
def w_are_things_1 : Stms := (.cons (.ret (.cst (.bl false))) .nil)
def c_are_things_2 : E := (.lc (.cmp .Lt (.sub (.sub (.var 0) (.bin .Sub (.var 3) (.cst (.int (1))))) (.cst (.int (0)))) (.sub (.sub (.var 0) (.var 3)) (.cst (.int (0))))) (.nm 3) .range (.cons (.cst (.int (1))) (.cons (.blt .len (.cons (.var 0) .nil)) .nil)) .no [1, 3])
def t_are_things_1 : Stms := (.cons (.ret (.blt .all (.cons c_are_things_2 .nil))) .nil)
def b_are_things : Stms := (.cons (.ife (.or (.not (.isi (.var 0) .tuple)) (.or (.cmp .Gt (.blt .len (.cons (.var 0) .nil)) (.glb ("MOST_THINGS" : Str) (.int (200)))) (.not (.blt .all (.cons c_are_things_1 .nil))))) w_are_things_1 .nil) t_are_things_1)
def f_are_things : QFn := ⟨1, 4, [.sh, .sh, .sh, .sh], true, b_are_things⟩
/-- number_of: "key", "found", "sign" -/
def n_number_of : List Str := ["key", "found", "sign"]
def w_number_of_1 : Stms := (.cons (.asg (.nm 1) (.bin .Add (.bin .Mult (.var 1) (.cst (.int (4)))) (.mth .index (.glb ("LETTERS" : Str) (.str ("abcdefghijklmnopqrstuvwxyz" : Str))) (.cons (.var 2) .nil)))) .nil)
def t_number_of_1 : Stms := (.cons (.ret (.bin .Mod (.var 1) (.glb ("NUMBERS" : Str) (.int (1024))))) .nil)
def t_number_of_2 : Stms := (.cons (.for (.nm 2) .rev (.cons (.slc (.var 0) .no (.so (.glb ("COUNTED" : Str) (.int (5))))) .nil) w_number_of_1) t_number_of_1)
def b_number_of : Stms := (.cons (.asg (.nm 1) (.cst (.int (0)))) t_number_of_2)
def f_number_of : QFn := ⟨1, 3, [.sh, .sh, .sh], true, b_number_of⟩
/-- digits_of: "key", "number", "found", "k" -/
def n_digits_of : List Str := ["key", "number", "found", "k"]
def t_digits_of_1 : Stms := (.cons (.asg (.nm 1) (.bin .FloorDiv (.var 1) (.cst (.int (4))))) .nil)
def w_digits_of_1 : Stms := (.cons (.ex (.mth .append (.var 2) (.cons (.bin .Mod (.var 1) (.cst (.int (4)))) .nil))) t_digits_of_1)
def t_digits_of_2 : Stms := (.cons (.ret (.blt .tuple (.cons (.var 2) .nil))) .nil)
def t_digits_of_3 : Stms := (.cons (.for (.nm 3) .range (.cons (.glb ("COUNTED" : Str) (.int (5))) .nil) w_digits_of_1) t_digits_of_2)
def t_digits_of_4 : Stms := (.cons (.asg (.nm 2) (.lst .nil)) t_digits_of_3)
def b_digits_of : Stms := (.cons (.asg (.nm 1) (.cal ("number_of" : Str) (.cons (.var 0) .nil))) t_digits_of_4)
def f_digits_of : QFn := ⟨1, 4, [.sh, .sh, .ow, .sh], true, b_digits_of⟩
/-- _law_feed: "_law_script" -/
def n_law_feed : List Str := ["_law_script"]
def b_law_feed : Stms := (.cons (.ret (.lst (.cons (.blt .list (.cons (.slc (.var 0) .no (.so (.cst (.int (63))))) .nil)) (.cons (.cst (.int (0))) (.cons (.cst (.int (0))) (.cons (.cst (.int (0))) .nil)))))) .nil)
def f_law_feed : QFn := ⟨1, 1, [.sh], true, b_law_feed⟩
/-- _law_draw: "_law_feed_here", "_law_many", "_law_found", "_law_cell", "_law_stirred" -/
def n_law_draw : List Str := ["_law_feed_here", "_law_many", "_law_found", "_law_cell", "_law_stirred"]
def w_law_draw_1 : Stms := (.cons (.asg (.sub (.var 0) (.cst (.int (2)))) (.blt .abs (.cons (.sub (.sub (.var 0) (.cst (.int (0)))) (.sub (.var 0) (.cst (.int (3))))) .nil))) .nil)
def t_law_draw_1 : Stms := (.cons (.asg (.sub (.var 0) (.cst (.int (3)))) (.bin .Add (.sub (.var 0) (.cst (.int (3)))) (.cst (.int (1))))) .nil)
def w_law_draw_2 : Stms := (.cons (.ife (.cmp .GtE (.blt .abs (.cons (.sub (.sub (.var 0) (.cst (.int (0)))) (.sub (.var 0) (.cst (.int (3))))) .nil)) (.bin .Pow (.cst (.int (10))) (.cst (.int (18))))) w_law_draw_1 .nil) t_law_draw_1)
def t_law_draw_2 : Stms := (.cons (.ret (.var 2)) .nil)
def t_law_draw_3 : Stms := (.cons (.asg (.sub (.var 0) (.cst (.int (2)))) (.bin .FloorDiv (.sub (.var 0) (.cst (.int (2)))) (.var 1))) t_law_draw_2)
def w_law_draw_3 : Stms := (.cons (.asg (.nm 2) (.bin .Mod (.sub (.var 0) (.cst (.int (2)))) (.var 1))) t_law_draw_3)
def w_law_draw_4 : Stms := (.cons (.asg (.nm 3) (.sub (.sub (.var 0) (.cst (.int (0)))) (.bin .Mod (.sub (.var 0) (.cst (.int (1)))) (.blt .len (.cons (.sub (.var 0) (.cst (.int (0)))) .nil))))) .nil)
def t_law_draw_4 : Stms := (.cons (.ret (.bin .Mod (.bin .Mod (.bin .Mult (.var 4) (.cst (.int (16807)))) (.cst (.int (2147483563)))) (.var 1))) .nil)
def t_law_draw_5 : Stms := (.cons (.asg (.nm 4) (.bin .Mod (.bin .Mult (.var 4) (.bin .Add (.var 4) (.cst (.int (40692))))) (.cst (.int (2147483587))))) t_law_draw_4)
def t_law_draw_6 : Stms := (.cons (.asg (.nm 4) (.bin .Mod (.bin .Add (.bin .Add (.bin .Mult (.bin .Mod (.var 3) (.cst (.int (2147483647)))) (.cst (.int (48271)))) (.bin .Mult (.cst (.int (7919))) (.sub (.var 0) (.cst (.int (1)))))) (.cst (.int (12345)))) (.cst (.int (2147483629))))) t_law_draw_5)
def t_law_draw_7 : Stms := (.cons (.ife (.cmp .Gt (.blt .len (.cons (.sub (.var 0) (.cst (.int (0)))) .nil)) (.cst (.int (0)))) w_law_draw_4 .nil) t_law_draw_6)
def t_law_draw_8 : Stms := (.cons (.asg (.nm 3) (.cst (.int (0)))) t_law_draw_7)
def t_law_draw_9 : Stms := (.cons (.ife (.cmp .Gt (.sub (.var 0) (.cst (.int (2)))) (.cst (.int (0)))) w_law_draw_3 .nil) t_law_draw_8)
def t_law_draw_10 : Stms := (.cons (.whl (.and (.cmp .Eq (.sub (.var 0) (.cst (.int (2)))) (.cst (.int (0)))) (.cmp .Lt (.sub (.var 0) (.cst (.int (3)))) (.blt .len (.cons (.sub (.var 0) (.cst (.int (0)))) .nil)))) w_law_draw_2) t_law_draw_9)
def b_law_draw : Stms := (.cons (.asg (.sub (.var 0) (.cst (.int (1)))) (.bin .Add (.sub (.var 0) (.cst (.int (1)))) (.cst (.int (1))))) t_law_draw_10)
def f_law_draw : QFn := ⟨2, 5, [.ow, .sh, .sh, .sh, .sh], false, b_law_draw⟩
/-- _law_key: "_law_feed_here", "_law_many", "_law_found", "_law_k", "_law_way" -/
def n_law_key : List Str := ["_law_feed_here", "_law_many", "_law_found", "_law_k", "_law_way"]
def w_law_key_1 : Stms := (.cons (.asg (.nm 2) (.bin .Add (.var 2) (.sub (.cst (.str ("abcdefghijklmnopqrstuvwxyz" : Str))) (.cal ("_law_draw" : Str) (.cons (.var 0) (.cons (.sub (.lst (.cons (.cst (.int (2))) (.cons (.cst (.int (4))) (.cons (.cst (.int (26))) .nil)))) (.cal ("_law_draw" : Str) (.cons (.var 0) (.cons (.cst (.int (3))) .nil)))) .nil)))))) .nil)
def w_law_key_2 : Stms := (.cons (.ret (.bin .Add (.var 2) (.bin .Mult (.cst (.str ("a" : Str))) (.cal ("_law_draw" : Str) (.cons (.var 0) (.cons (.bin .Sub (.cst (.int (9))) (.blt .len (.cons (.var 2) .nil))) .nil)))))) .nil)
def w_law_key_3 : Stms := (.cons (.ret (.bin .Add (.bin .Add (.var 2) (.bin .Mult (.cst (.str ("a" : Str))) (.bin .Sub (.cst (.int (5))) (.var 1)))) (.sub (.lst (.cons (.cst (.str ("b" : Str))) (.cons (.cst (.str ("z" : Str))) (.cons (.cst (.str ("ab" : Str))) (.cons (.cst (.str ("zzz" : Str))) .nil))))) (.cal ("_law_draw" : Str) (.cons (.var 0) (.cons (.cst (.int (4))) .nil)))))) .nil)
def t_law_key_1 : Stms := (.cons (.ret (.var 2)) .nil)
def t_law_key_2 : Stms := (.cons (.ife (.cmp .Eq (.var 4) (.cst (.int (1)))) w_law_key_3 .nil) t_law_key_1)
def t_law_key_3 : Stms := (.cons (.ife (.cmp .Eq (.var 4) (.cst (.int (0)))) w_law_key_2 .nil) t_law_key_2)
def t_law_key_4 : Stms := (.cons (.asg (.nm 4) (.cal ("_law_draw" : Str) (.cons (.var 0) (.cons (.cst (.int (5))) .nil)))) t_law_key_3)
def t_law_key_5 : Stms := (.cons (.for (.nm 3) .range (.cons (.var 1) .nil) w_law_key_1) t_law_key_4)
def t_law_key_6 : Stms := (.cons (.asg (.nm 2) (.cst (.str ("" : Str)))) t_law_key_5)
def b_law_key : Stms := (.cons (.asg (.nm 1) (.bin .Add (.cst (.int (1))) (.cal ("_law_draw" : Str) (.cons (.var 0) (.cons (.cst (.int (5))) .nil))))) t_law_key_6)
def f_law_key : QFn := ⟨1, 5, [.ow, .sh, .sh, .sh, .sh], false, b_law_key⟩
/-- _law_value: "_law_feed_here" -/
def n_law_value : List Str := ["_law_feed_here"]
def b_law_value : Stms := (.cons (.ret (.bin .Mult (.cal ("_law_draw" : Str) (.cons (.var 0) (.cons (.sub (.lst (.cons (.cst (.int (5))) (.cons (.cst (.int (100))) (.cons (.bin .Pow (.cst (.int (10))) (.cst (.int (20)))) .nil)))) (.cal ("_law_draw" : Str) (.cons (.var 0) (.cons (.cst (.int (3))) .nil)))) .nil))) (.sub (.lst (.cons (.cst (.int (1))) (.cons (.neg (.cst (.int (1)))) .nil))) (.cal ("_law_draw" : Str) (.cons (.var 0) (.cons (.cst (.int (2))) .nil)))))) .nil)
def f_law_value : QFn := ⟨1, 1, [.ow], true, b_law_value⟩
/-- _law_table: "_law_feed_here", "_law_most", "_law_found", "_law_k" -/
def n_law_table : List Str := ["_law_feed_here", "_law_most", "_law_found", "_law_k"]
def w_law_table_1 : Stms := (.cons (.asg (.sub (.var 2) (.cal ("_law_key" : Str) (.cons (.var 0) .nil))) (.cal ("_law_value" : Str) (.cons (.var 0) .nil))) .nil)
def t_law_table_1 : Stms := (.cons (.ret (.var 2)) .nil)
def t_law_table_2 : Stms := (.cons (.for (.nm 3) .range (.cons (.cal ("_law_draw" : Str) (.cons (.var 0) (.cons (.bin .Add (.var 1) (.cst (.int (1)))) .nil))) .nil) w_law_table_1) t_law_table_1)
def b_law_table : Stms := (.cons (.asg (.nm 2) (.dic .nil)) t_law_table_2)
def f_law_table : QFn := ⟨2, 4, [.ow, .sh, .ow, .sh], true, b_law_table⟩
/-- _law_digits: "_law_key_here", "_law_number", "_law_scale", "_law_sign", ".0", "_law_k" -/
def n_law_digits : List Str := ["_law_key_here", "_law_number", "_law_scale", "_law_sign", ".0", "_law_k"]
def t_law_digits_1 : Stms := (.cons (.asg (.nm 2) (.bin .Mult (.var 2) (.cst (.int (4))))) .nil)
def w_law_digits_1 : Stms := (.cons (.asg (.nm 1) (.bin .Add (.var 1) (.bin .Mult (.mth .index (.cst (.str ("abcdefghijklmnopqrstuvwxyz" : Str))) (.cons (.var 3) .nil)) (.var 2)))) t_law_digits_1)
def c_law_digits_1 : E := (.lc (.bin .Mod (.bin .FloorDiv (.var 1) (.sub (.lst (.cons (.cst (.int (1))) (.cons (.cst (.int (4))) (.cons (.cst (.int (16))) (.cons (.cst (.int (64))) (.cons (.cst (.int (256))) .nil)))))) (.var 5))) (.cst (.int (4)))) (.nm 5) .range (.cons (.cst (.int (5))) .nil) .no [4, 5])
def t_law_digits_2 : Stms := (.cons (.ret (.blt .tuple (.cons c_law_digits_1 .nil))) .nil)
def t_law_digits_3 : Stms := (.cons (.for (.nm 3) .plain (.cons (.slc (.var 0) .no (.so (.cst (.int (5))))) .nil) w_law_digits_1) t_law_digits_2)
def t_law_digits_4 : Stms := (.cons (.asg (.nm 2) (.cst (.int (1)))) t_law_digits_3)
def b_law_digits : Stms := (.cons (.asg (.nm 1) (.cst (.int (0)))) t_law_digits_4)
def f_law_digits : QFn := ⟨1, 6, [.sh, .sh, .sh, .sh, .sh, .sh], true, b_law_digits⟩
/-- _law_is_key: "_law_thing", ".0", "_law_sign" -/
def n_law_is_key : List Str := ["_law_thing", ".0", "_law_sign"]
def w_law_is_key_1 : Stms := (.cons (.ret (.cst (.bl false))) .nil)
def c_law_is_key_1 : E := (.lc (.var 2) (.nm 2) .plain (.cons (.var 0) .nil) (.so (.cmp .NotIn (.var 2) (.cst (.str ("abcdefghijklmnopqrstuvwxyz" : Str))))) [1, 2])
def t_law_is_key_1 : Stms := (.cons (.ret (.cmp .Eq c_law_is_key_1 (.lst .nil))) .nil)
def b_law_is_key : Stms := (.cons (.ife (.or (.not (.isi (.var 0) .str)) (.not (.chn .LtE .LtE (.cst (.int (1))) (.blt .len (.cons (.var 0) .nil)) (.cst (.int (8)))))) w_law_is_key_1 .nil) t_law_is_key_1)
def f_law_is_key : QFn := ⟨1, 3, [.sh, .sh, .sh], true, b_law_is_key⟩
/-- _law_is_value: "_law_thing" -/
def n_law_is_value : List Str := ["_law_thing"]
def b_law_is_value : Stms := (.cons (.ret (.and (.isi (.var 0) .int) (.and (.not (.isi (.var 0) .bool)) (.chn .Lt .Lt (.neg (.bin .Pow (.cst (.int (10))) (.cst (.int (20))))) (.var 0) (.bin .Pow (.cst (.int (10))) (.cst (.int (20)))))))) .nil)
def f_law_is_value : QFn := ⟨1, 1, [.sh], true, b_law_is_value⟩
/-- _law_are_things: "_law_thing", "_law_one", ".0", "_law_k" -/
def n_law_are_things : List Str := ["_law_thing", "_law_one", ".0", "_law_k"]
def w_law_are_things_1 : Stms := (.cons (.ret (.cst (.bl false))) .nil)
def w_law_are_things_2 : Stms := (.cons (.ret (.cst (.bl false))) .nil)
def w_law_are_things_3 : Stms := (.cons (.ret (.cst (.bl false))) .nil)
def t_law_are_things_1 : Stms := (.cons (.ife (.or (.not (.cal ("_law_is_key" : Str) (.cons (.sub (.var 1) (.cst (.int (0)))) .nil))) (.not (.cal ("_law_is_value" : Str) (.cons (.sub (.var 1) (.cst (.int (1)))) .nil)))) w_law_are_things_3 .nil) .nil)
def w_law_are_things_4 : Stms := (.cons (.ife (.or (.not (.isi (.var 1) .tuple)) (.cmp .NotEq (.blt .len (.cons (.var 1) .nil)) (.cst (.int (2))))) w_law_are_things_2 .nil) t_law_are_things_1)
def c_law_are_things_1 : E := (.lc (.var 3) (.nm 3) .range (.cons (.cst (.int (1))) (.cons (.blt .len (.cons (.var 0) .nil)) .nil)) (.so (.cmp .GtE (.sub (.sub (.var 0) (.bin .Sub (.var 3) (.cst (.int (1))))) (.cst (.int (0)))) (.sub (.sub (.var 0) (.var 3)) (.cst (.int (0)))))) [2, 3])
def t_law_are_things_2 : Stms := (.cons (.ret (.cmp .Eq c_law_are_things_1 (.lst .nil))) .nil)
def t_law_are_things_3 : Stms := (.cons (.for (.nm 1) .plain (.cons (.var 0) .nil) w_law_are_things_4) t_law_are_things_2)
def b_law_are_things : Stms := (.cons (.ife (.or (.not (.isi (.var 0) .tuple)) (.cmp .Gt (.blt .len (.cons (.var 0) .nil)) (.cst (.int (200))))) w_law_are_things_1 .nil) t_law_are_things_3)
def f_law_are_things : QFn := ⟨1, 4, [.sh, .sh, .sh, .sh], true, b_law_are_things⟩
/-- _law_is_told: "_law_told", "_law_due" -/
def n_law_is_told : List Str := ["_law_told", "_law_due"]
def b_law_is_told : Stms := (.cons (.ret (.and (.isi (.var 0) .bool) (.cmp .Eq (.var 0) (.var 1)))) .nil)
def f_law_is_told : QFn := ⟨2, 2, [.sh, .sh], true, b_law_is_told⟩
/-- _law_any: "_law_feed_here", "_law_key_here", "_law_far", "_law_at", "_law_sign", "_law_some" -/
def n_law_any : List Str := ["_law_feed_here", "_law_key_here", "_law_far", "_law_at", "_law_sign", "_law_some"]
def t_law_any_1 : Stms := (.cons (.ret (.sub (.var 5) (.cal ("_law_draw" : Str) (.cons (.var 0) (.cons (.cst (.int (17))) .nil))))) .nil)
def t_law_any_2 : Stms := (.cons (.asg (.nm 5) (.bin .Add (.var 5) (.lst (.cons (.bin .Add (.bin .Add (.slc (.var 1) .no (.so (.var 3))) (.var 4)) (.slc (.var 1) (.so (.bin .Add (.var 3) (.cst (.int (1))))) .no)) (.cons (.bin .Add (.slc (.var 1) .no (.so (.var 3))) (.slc (.var 1) (.so (.bin .Add (.var 3) (.cst (.int (1))))) .no)) .nil))))) t_law_any_1)
def t_law_any_3 : Stms := (.cons (.asg (.nm 5) (.bin .Add (.var 5) (.lst (.cons (.var 2) (.cons (.var 2) (.cons (.bin .Add (.bin .Add (.slc (.var 1) .no (.so (.cst (.int (1))))) (.cst (.str ("-" : Str)))) (.slc (.var 1) (.so (.cst (.int (1)))) .no)) (.cons (.blt .list (.cons (.var 1) .nil)) (.cons (.bin .Add (.bin .Add (.slc (.var 1) .no (.so (.var 3))) (.var 4)) (.slc (.var 1) (.so (.var 3)) .no)) .nil)))))))) t_law_any_2)
def t_law_any_4 : Stms := (.cons (.asg (.nm 5) (.lst (.cons (.var 1) (.cons (.mth .upper (.var 1) .nil) (.cons (.bin .Add (.var 1) (.cst (.str (" " : Str)))) (.cons (.bin .Add (.cst (.str (" " : Str))) (.var 1)) (.cons (.bin .Add (.var 1) (.cst (.str ("1" : Str)))) (.cons (.slc (.var 1) (.so (.cst (.int (1)))) .no) (.cons (.bin .Mult (.var 1) (.cst (.int (9)))) (.cons (.lst (.cons (.var 1) .nil)) (.cons (.tup (.cons (.var 1) .nil)) (.cons (.var 2) .nil)))))))))))) t_law_any_3)
def t_law_any_5 : Stms := (.cons (.asg (.nm 4) (.sub (.cst (.str ("AaZz09 -_.{`~" : Str))) (.cal ("_law_draw" : Str) (.cons (.var 0) (.cons (.cst (.int (13))) .nil))))) t_law_any_4)
def t_law_any_6 : Stms := (.cons (.asg (.nm 3) (.cal ("_law_draw" : Str) (.cons (.var 0) (.cons (.bin .Add (.blt .len (.cons (.var 1) .nil)) (.cst (.int (1)))) .nil)))) t_law_any_5)
def b_law_any : Stms := (.cons (.asg (.nm 2) (.sub (.lst (.cons (.bin .Pow (.cst (.int (10))) (.cst (.int (20)))) (.cons (.bin .Sub (.bin .Pow (.cst (.int (10))) (.cst (.int (20)))) (.cst (.int (1)))) (.cons (.bin .Sub (.cst (.int (1))) (.bin .Pow (.cst (.int (10))) (.cst (.int (20))))) (.cons (.neg (.bin .Pow (.cst (.int (10))) (.cst (.int (20))))) (.cons (.cst (.int (0))) (.cons (.cst (.bl true)) (.cons (.cst (.bl false)) (.cons (.cst .non) .nil))))))))) (.cal ("_law_draw" : Str) (.cons (.var 0) (.cons (.cst (.int (8))) .nil))))) t_law_any_6)
def f_law_any : QFn := ⟨2, 6, [.ow, .sh, .sh, .sh, .sh, .sh], false, b_law_any⟩
/-- law: "_law_script", "_law_feed_here", "_law_letters", "_law_many", "_law_turn", "_law_key_here", "_law_other", "_law_digits_here", "_law_number", "_law_meets", "_law_thing", "_law_table_here", "_law_things", "_law_at", "_law_odd", "_law_some", "_law_one", ".0", "_law_k", "_law_name" -/
def n_law_k01 : List Str := ["_law_script", "_law_feed_here", "_law_letters", "_law_many", "_law_turn", "_law_key_here", "_law_other", "_law_digits_here", "_law_number", "_law_meets", "_law_thing", "_law_table_here", "_law_things", "_law_at", "_law_odd", "_law_some", "_law_one", ".0", "_law_k", "_law_name"]
def c_law_k01_1 : E := (.lc (.tup (.cons (.bin .Add (.sub (.var 2) (.bin .FloorDiv (.var 18) (.cst (.int (26))))) (.sub (.var 2) (.bin .Mod (.var 18) (.cst (.int (26)))))) (.cons (.var 18) .nil))) (.nm 18) .range (.cons (.cst (.int (201))) .nil) .no [17, 18])
def w_law_k01_1 : Stms := (.cons (.ret (.cst (.bl false))) .nil)
def c_law_k01_2 : E := (.lc (.bin .Mult (.sub (.var 7) (.var 18)) (.sub (.lst (.cons (.cst (.int (1))) (.cons (.cst (.int (4))) (.cons (.cst (.int (16))) (.cons (.cst (.int (64))) (.cons (.cst (.int (256))) .nil)))))) (.var 18))) (.nm 18) .range (.cons (.cst (.int (5))) .nil) .no [17, 18])
def w_law_k01_2 : Stms := (.cons (.ret (.cst (.bl false))) .nil)
def w_law_k01_3 : Stms := (.cons (.ret (.cst (.bl false))) .nil)
def w_law_k01_4 : Stms := (.cons (.ret (.cst (.bl false))) .nil)
def w_law_k01_5 : Stms := (.cons (.ret (.cst (.bl false))) .nil)
def t_law_k01_1 : Stms := (.cons (.ife (.not (.cal ("_law_is_told" : Str) (.cons (.cal ("is_value" : Str) (.cons (.var 10) .nil)) (.cons (.cal ("_law_is_value" : Str) (.cons (.var 10) .nil)) .nil)))) w_law_k01_5 .nil) .nil)
def w_law_k01_6 : Stms := (.cons (.ife (.not (.cal ("_law_is_told" : Str) (.cons (.cal ("is_key" : Str) (.cons (.var 10) .nil)) (.cons (.cal ("_law_is_key" : Str) (.cons (.var 10) .nil)) .nil)))) w_law_k01_4 .nil) t_law_k01_1)
def c_law_k01_3 : E := (.lc (.tup (.cons (.var 19) (.cons (.sub (.var 11) (.var 19)) .nil))) (.nm 19) .plain (.cons (.blt .sorted (.cons (.var 11) .nil)) .nil) .no [17, 19])
def w_law_k01_7 : Stms := (.cons (.ex (.mth .append (.var 15) (.cons (.bin .Add (.bin .Add (.slc (.var 12) .no (.so (.var 13))) (.tup (.cons (.var 16) .nil))) (.slc (.var 12) (.so (.var 13)) .no)) .nil))) .nil)
def w_law_k01_8 : Stms := (.cons (.ret (.cst (.bl false))) .nil)
def w_law_k01_9 : Stms := (.cons (.ife (.not (.cal ("_law_is_told" : Str) (.cons (.cal ("are_things" : Str) (.cons (.var 10) .nil)) (.cons (.cal ("_law_are_things" : Str) (.cons (.var 10) .nil)) .nil)))) w_law_k01_8 .nil) .nil)
def t_law_k01_2 : Stms := (.cons (.for (.nm 10) .plain (.cons (.var 15) .nil) w_law_k01_9) .nil)
def t_law_k01_3 : Stms := (.cons (.for (.nm 16) .plain (.cons (.lst (.cons (.sub (.var 14) (.cal ("_law_draw" : Str) (.cons (.var 1) (.cons (.cst (.int (5))) .nil)))) (.cons (.tup (.cons (.var 5) (.cons (.cal ("_law_value" : Str) (.cons (.var 1) .nil)) .nil))) .nil))) .nil) w_law_k01_7) t_law_k01_2)
def t_law_k01_4 : Stms := (.cons (.asg (.nm 15) (.lst (.cons (.var 12) (.cons (.blt .list (.cons (.var 12) .nil)) (.cons (.rvs (.var 12)) (.cons (.bin .Add (.var 12) (.slc (.var 12) .no (.so (.cst (.int (1)))))) (.cons (.cst .non) (.cons (.tup .nil) (.cons (.cst (.int (0))) .nil))))))))) t_law_k01_3)
def t_law_k01_5 : Stms := (.cons (.asg (.nm 14) (.lst (.cons (.tup (.cons (.var 5) (.cons (.cal ("_law_any" : Str) (.cons (.var 1) (.cons (.var 5) .nil))) .nil))) (.cons (.tup (.cons (.cal ("_law_any" : Str) (.cons (.var 1) (.cons (.var 5) .nil))) (.cons (.cst (.int (0))) .nil))) (.cons (.tup (.cons (.var 5) (.cons (.cst (.int (1))) (.cons (.cst (.int (2))) .nil)))) (.cons (.lst (.cons (.var 5) (.cons (.cst (.int (1))) .nil))) (.cons (.var 5) .nil))))))) t_law_k01_4)
def t_law_k01_6 : Stms := (.cons (.asg (.nm 13) (.cal ("_law_draw" : Str) (.cons (.var 1) (.cons (.bin .Add (.blt .len (.cons (.var 12) .nil)) (.cst (.int (1)))) .nil)))) t_law_k01_5)
def t_law_k01_7 : Stms := (.cons (.asg (.nm 12) (.blt .tuple (.cons c_law_k01_3 .nil))) t_law_k01_6)
def t_law_k01_8 : Stms := (.cons (.asg (.nm 11) (.cal ("_law_table" : Str) (.cons (.var 1) (.cons (.cst (.int (8))) .nil)))) t_law_k01_7)
def t_law_k01_9 : Stms := (.cons (.for (.nm 10) .plain (.cons (.lst (.cons (.var 5) (.cons (.cal ("_law_any" : Str) (.cons (.var 1) (.cons (.var 5) .nil))) (.cons (.cal ("_law_any" : Str) (.cons (.var 1) (.cons (.var 5) .nil))) (.cons (.cal ("_law_any" : Str) (.cons (.var 1) (.cons (.var 6) .nil))) .nil))))) .nil) w_law_k01_6) t_law_k01_8)
def t_law_k01_10 : Stms := (.cons (.ife (.cmp .NotEq (.var 9) (.cmp .Eq (.var 7) (.cal ("_law_digits" : Str) (.cons (.var 6) .nil)))) w_law_k01_3 .nil) t_law_k01_9)
def t_law_k01_11 : Stms := (.cons (.asg (.nm 9) (.cmp .Eq (.cal ("number_of" : Str) (.cons (.var 5) .nil)) (.cal ("number_of" : Str) (.cons (.var 6) .nil)))) t_law_k01_10)
def t_law_k01_12 : Stms := (.cons (.ife (.or (.cmp .NotEq (.blt .repr (.cons (.cal ("digits_of" : Str) (.cons (.var 5) .nil)) .nil)) (.blt .repr (.cons (.var 7) .nil))) (.cmp .NotEq (.blt .repr (.cons (.cal ("number_of" : Str) (.cons (.var 5) .nil)) .nil)) (.blt .repr (.cons (.var 8) .nil)))) w_law_k01_2 .nil) t_law_k01_11)
def t_law_k01_13 : Stms := (.cons (.asg (.nm 8) (.blt .sum (.cons c_law_k01_2 .nil))) t_law_k01_12)
def t_law_k01_14 : Stms := (.cons (.asg (.nm 7) (.cal ("_law_digits" : Str) (.cons (.var 5) .nil))) t_law_k01_13)
def w_law_k01_10 : Stms := (.cons (.par 5 6 (.cal ("_law_key" : Str) (.cons (.var 1) .nil)) (.cal ("_law_key" : Str) (.cons (.var 1) .nil))) t_law_k01_14)
def t_law_k01_15 : Stms := (.cons (.ret (.cst (.bl true))) .nil)
def t_law_k01_16 : Stms := (.cons (.for (.nm 4) .range (.cons (.cst (.int (6))) .nil) w_law_k01_10) t_law_k01_15)
def t_law_k01_17 : Stms := (.cons (.ife (.cmp .NotEq (.blt .repr (.cons (.lst (.cons (.cal ("are_things" : Str) (.cons (.var 3) .nil)) (.cons (.cal ("are_things" : Str) (.cons (.slc (.var 3) (.so (.cst (.int (1)))) .no) .nil)) .nil))) .nil)) (.cst (.str ("[False, True]" : Str)))) w_law_k01_1 .nil) t_law_k01_16)
def t_law_k01_18 : Stms := (.cons (.asg (.nm 3) (.blt .tuple (.cons c_law_k01_1 .nil))) t_law_k01_17)
def t_law_k01_19 : Stms := (.cons (.asg (.nm 2) (.cst (.str ("abcdefghijklmnopqrstuvwxyz" : Str)))) t_law_k01_18)
def b_law_k01 : Stms := (.cons (.asg (.nm 1) (.cal ("_law_feed" : Str) (.cons (.var 0) .nil))) t_law_k01_19)
def f_law_k01 : QFn := ⟨1, 20, [.sh, .ow, .sh, .sh, .sh, .sh, .sh, .sh, .sh, .sh, .sh, .sh, .sh, .sh, .sh, .ow, .sh, .sh, .sh, .sh], true, b_law_k01⟩
end Pq
set_option Elab.async false
set_option linter.all false
set_option maxRecDepth 100000
set_option maxHeartbeats 0
namespace K01
open PySem PySem.Spec PyProof.Rows L2 Pv Pq
abbrev theLaw := PySem.Challenge.rw_bitshelves_k01_keys_and_their_digits
abbrev theProg : Program := PySem.Challenge.pw_bitshelves_k01_keys_and_their_digits
abbrev st (i : Nat) : Stmt := theProg.main.body.getD i (.Pass ⟨0, 0, 0, 0⟩)
def d_is_whole : He.DefD := ⟨("is_whole", none), "is_whole", "is_whole", defArgs (st 7), defBody (st 7), defScope (st 7), [], []⟩
def d_is_key : He.DefD := ⟨("is_key", none), "is_key", "is_key", defArgs (st 8), defBody (st 8), defScope (st 8), [], []⟩
def d_is_value : He.DefD := ⟨("is_value", none), "is_value", "is_value", defArgs (st 9), defBody (st 9), defScope (st 9), [], []⟩
def d_is_thing : He.DefD := ⟨("is_thing", none), "is_thing", "is_thing", defArgs (st 10), defBody (st 10), defScope (st 10), [], []⟩
def d_are_things : He.DefD := ⟨("are_things", none), "are_things", "are_things", defArgs (st 11), defBody (st 11), defScope (st 11), [], []⟩
def d_number_of : He.DefD := ⟨("number_of", none), "number_of", "number_of", defArgs (st 12), defBody (st 12), defScope (st 12), [], []⟩
def d_digits_of : He.DefD := ⟨("digits_of", none), "digits_of", "digits_of", defArgs (st 13), defBody (st 13), defScope (st 13), [], []⟩
def d__law_feed : He.DefD := ⟨("_law_feed", none), "_law_feed", "_law_feed", defArgs (st 15), defBody (st 15), defScope (st 15), [], []⟩
def d__law_draw : He.DefD := ⟨("_law_draw", none), "_law_draw", "_law_draw", defArgs (st 16), defBody (st 16), defScope (st 16), [], []⟩
def d__law_key : He.DefD := ⟨("_law_key", none), "_law_key", "_law_key", defArgs (st 17), defBody (st 17), defScope (st 17), [], []⟩
def d__law_value : He.DefD := ⟨("_law_value", none), "_law_value", "_law_value", defArgs (st 18), defBody (st 18), defScope (st 18), [], []⟩
def d__law_table : He.DefD := ⟨("_law_table", none), "_law_table", "_law_table", defArgs (st 19), defBody (st 19), defScope (st 19), [], []⟩
def d__law_digits : He.DefD := ⟨("_law_digits", none), "_law_digits", "_law_digits", defArgs (st 20), defBody (st 20), defScope (st 20), [], []⟩
def d__law_is_key : He.DefD := ⟨("_law_is_key", none), "_law_is_key", "_law_is_key", defArgs (st 21), defBody (st 21), defScope (st 21), [], []⟩
def d__law_is_value : He.DefD := ⟨("_law_is_value", none), "_law_is_value", "_law_is_value", defArgs (st 22), defBody (st 22), defScope (st 22), [], []⟩
def d__law_are_things : He.DefD := ⟨("_law_are_things", none), "_law_are_things", "_law_are_things", defArgs (st 23), defBody (st 23), defScope (st 23), [], []⟩
def d__law_is_told : He.DefD := ⟨("_law_is_told", none), "_law_is_told", "_law_is_told", defArgs (st 24), defBody (st 24), defScope (st 24), [], []⟩
def d__law_any : He.DefD := ⟨("_law_any", none), "_law_any", "_law_any", defArgs (st 25), defBody (st 25), defScope (st 25), [], []⟩
def d_law : He.DefD := ⟨("law", none), "law", "law", defArgs (st 26), defBody (st 26), defScope (st 26), [], []⟩
def fn : List He.DefD := [d_is_whole, d_is_key, d_is_value, d_is_thing, d_are_things, d_number_of, d_digits_of, d__law_feed, d__law_draw, d__law_key, d__law_value, d__law_table, d__law_digits, d__law_is_key, d__law_is_value, d__law_are_things, d__law_is_told, d__law_any, d_law]
def G : List (Str × D) := [(("LETTERS" : Str), (.str ("abcdefghijklmnopqrstuvwxyz" : Str))), (("LONGEST" : Str), (.int (8))), (("COUNTED" : Str), (.int (5))), (("NUMBERS" : Str), (.int (1024))), (("MOST_THINGS" : Str), (.int (200))), (("GREATEST" : Str), (.int (100000000000000000000)))]
def QT : QTbl := [("is_whole", f_is_whole), ("is_key", f_is_key), ("is_value", f_is_value), ("is_thing", f_is_thing), ("are_things", f_are_things), ("number_of", f_number_of), ("digits_of", f_digits_of), ("_law_feed", f_law_feed), ("_law_draw", f_law_draw), ("_law_key", f_law_key), ("_law_value", f_law_value), ("_law_table", f_law_table), ("_law_digits", f_law_digits), ("_law_is_key", f_law_is_key), ("_law_is_value", f_law_is_value), ("_law_are_things", f_law_are_things), ("_law_is_told", f_law_is_told), ("_law_any", f_law_any), ("law", f_law_k01)]
def T : Tbl := [("is_whole", ⟨1, n_is_whole.length, b_is_whole⟩), ("is_key", ⟨1, n_is_key.length, b_is_key⟩), ("is_value", ⟨1, n_is_value.length, b_is_value⟩), ("is_thing", ⟨1, n_is_thing.length, b_is_thing⟩), ("are_things", ⟨1, n_are_things.length, b_are_things⟩), ("number_of", ⟨1, n_number_of.length, b_number_of⟩), ("digits_of", ⟨1, n_digits_of.length, b_digits_of⟩), ("_law_feed", ⟨1, n_law_feed.length, b_law_feed⟩), ("_law_draw", ⟨2, n_law_draw.length, b_law_draw⟩), ("_law_key", ⟨1, n_law_key.length, b_law_key⟩), ("_law_value", ⟨1, n_law_value.length, b_law_value⟩), ("_law_table", ⟨2, n_law_table.length, b_law_table⟩), ("_law_digits", ⟨1, n_law_digits.length, b_law_digits⟩), ("_law_is_key", ⟨1, n_law_is_key.length, b_law_is_key⟩), ("_law_is_value", ⟨1, n_law_is_value.length, b_law_is_value⟩), ("_law_are_things", ⟨1, n_law_are_things.length, b_law_are_things⟩), ("_law_is_told", ⟨2, n_law_is_told.length, b_law_is_told⟩), ("_law_any", ⟨2, n_law_any.length, b_law_any⟩), ("law", ⟨1, n_law_k01.length, b_law_k01⟩)]
theorem T_eq : QT.plain = T := by kernel_rfl
theorem QT_ok : ∀ p ∈ QT, okFn QT p.2 = true := by
  have h : (QT.all fun p => okFn QT p.2) = true := by kernel_rfl
  exact fun p hp => List.all_eq_true.mp h p hp
def g : Cfg := ⟨G, T⟩
def fa : List He.Fa := (T.map fun p => .glo p.1) ++ bNames.map .free ++ G.map fun p => match p.2 with | .int i => .int p.1 i | .str s => .str p.1 s | _ => .glo p.1
theorem e_is_whole : EntIn g fa fn "is_whole" ⟨1, n_is_whole.length, b_is_whole⟩ := ⟨d_is_whole, n_is_whole, 60, List.mem_of_getElem? (i := 0) rfl, List.mem_append_left _ (List.mem_append_left _ (List.mem_of_getElem? (i := 0) rfl)), rfl, rfl, rfl, by kernel_rfl, ⟨by kernel_rfl, by kernel_rfl, by kernel_rfl, by decide +kernel, by kernel_rfl, by decide +kernel, by decide +kernel⟩, by kernel_rfl, rfl, by kernel_rfl⟩
theorem e_is_key : EntIn g fa fn "is_key" ⟨1, n_is_key.length, b_is_key⟩ := ⟨d_is_key, n_is_key, 60, List.mem_of_getElem? (i := 1) rfl, List.mem_append_left _ (List.mem_append_left _ (List.mem_of_getElem? (i := 1) rfl)), rfl, rfl, rfl, by kernel_rfl, ⟨by kernel_rfl, by kernel_rfl, by kernel_rfl, by decide +kernel, by kernel_rfl, by decide +kernel, by decide +kernel⟩, by kernel_rfl, rfl, by kernel_rfl⟩
theorem e_is_value : EntIn g fa fn "is_value" ⟨1, n_is_value.length, b_is_value⟩ := ⟨d_is_value, n_is_value, 60, List.mem_of_getElem? (i := 2) rfl, List.mem_append_left _ (List.mem_append_left _ (List.mem_of_getElem? (i := 2) rfl)), rfl, rfl, rfl, by kernel_rfl, ⟨by kernel_rfl, by kernel_rfl, by kernel_rfl, by decide +kernel, by kernel_rfl, by decide +kernel, by decide +kernel⟩, by kernel_rfl, rfl, by kernel_rfl⟩
theorem e_is_thing : EntIn g fa fn "is_thing" ⟨1, n_is_thing.length, b_is_thing⟩ := ⟨d_is_thing, n_is_thing, 60, List.mem_of_getElem? (i := 3) rfl, List.mem_append_left _ (List.mem_append_left _ (List.mem_of_getElem? (i := 3) rfl)), rfl, rfl, rfl, by kernel_rfl, ⟨by kernel_rfl, by kernel_rfl, by kernel_rfl, by decide +kernel, by kernel_rfl, by decide +kernel, by decide +kernel⟩, by kernel_rfl, rfl, by kernel_rfl⟩
theorem e_are_things : EntIn g fa fn "are_things" ⟨1, n_are_things.length, b_are_things⟩ := ⟨d_are_things, n_are_things, 60, List.mem_of_getElem? (i := 4) rfl, List.mem_append_left _ (List.mem_append_left _ (List.mem_of_getElem? (i := 4) rfl)), rfl, rfl, rfl, by kernel_rfl, ⟨by kernel_rfl, by kernel_rfl, by kernel_rfl, by decide +kernel, by kernel_rfl, by decide +kernel, by decide +kernel⟩, by kernel_rfl, rfl, by kernel_rfl⟩
theorem e_number_of : EntIn g fa fn "number_of" ⟨1, n_number_of.length, b_number_of⟩ := ⟨d_number_of, n_number_of, 60, List.mem_of_getElem? (i := 5) rfl, List.mem_append_left _ (List.mem_append_left _ (List.mem_of_getElem? (i := 5) rfl)), rfl, rfl, rfl, by kernel_rfl, ⟨by kernel_rfl, by kernel_rfl, by kernel_rfl, by decide +kernel, by kernel_rfl, by decide +kernel, by decide +kernel⟩, by kernel_rfl, rfl, by kernel_rfl⟩
theorem e_digits_of : EntIn g fa fn "digits_of" ⟨1, n_digits_of.length, b_digits_of⟩ := ⟨d_digits_of, n_digits_of, 60, List.mem_of_getElem? (i := 6) rfl, List.mem_append_left _ (List.mem_append_left _ (List.mem_of_getElem? (i := 6) rfl)), rfl, rfl, rfl, by kernel_rfl, ⟨by kernel_rfl, by kernel_rfl, by kernel_rfl, by decide +kernel, by kernel_rfl, by decide +kernel, by decide +kernel⟩, by kernel_rfl, rfl, by kernel_rfl⟩
theorem e__law_feed : EntIn g fa fn "_law_feed" ⟨1, n_law_feed.length, b_law_feed⟩ := ⟨d__law_feed, n_law_feed, 60, List.mem_of_getElem? (i := 7) rfl, List.mem_append_left _ (List.mem_append_left _ (List.mem_of_getElem? (i := 7) rfl)), rfl, rfl, rfl, by kernel_rfl, ⟨by kernel_rfl, by kernel_rfl, by kernel_rfl, by decide +kernel, by kernel_rfl, by decide +kernel, by decide +kernel⟩, by kernel_rfl, rfl, by kernel_rfl⟩
theorem e__law_draw : EntIn g fa fn "_law_draw" ⟨2, n_law_draw.length, b_law_draw⟩ := ⟨d__law_draw, n_law_draw, 60, List.mem_of_getElem? (i := 8) rfl, List.mem_append_left _ (List.mem_append_left _ (List.mem_of_getElem? (i := 8) rfl)), rfl, rfl, rfl, by kernel_rfl, ⟨by kernel_rfl, by kernel_rfl, by kernel_rfl, by decide +kernel, by kernel_rfl, by decide +kernel, by decide +kernel⟩, by kernel_rfl, rfl, by kernel_rfl⟩
theorem e__law_key : EntIn g fa fn "_law_key" ⟨1, n_law_key.length, b_law_key⟩ := ⟨d__law_key, n_law_key, 60, List.mem_of_getElem? (i := 9) rfl, List.mem_append_left _ (List.mem_append_left _ (List.mem_of_getElem? (i := 9) rfl)), rfl, rfl, rfl, by kernel_rfl, ⟨by kernel_rfl, by kernel_rfl, by kernel_rfl, by decide +kernel, by kernel_rfl, by decide +kernel, by decide +kernel⟩, by kernel_rfl, rfl, by kernel_rfl⟩
theorem e__law_value : EntIn g fa fn "_law_value" ⟨1, n_law_value.length, b_law_value⟩ := ⟨d__law_value, n_law_value, 60, List.mem_of_getElem? (i := 10) rfl, List.mem_append_left _ (List.mem_append_left _ (List.mem_of_getElem? (i := 10) rfl)), rfl, rfl, rfl, by kernel_rfl, ⟨by kernel_rfl, by kernel_rfl, by kernel_rfl, by decide +kernel, by kernel_rfl, by decide +kernel, by decide +kernel⟩, by kernel_rfl, rfl, by kernel_rfl⟩
theorem e__law_table : EntIn g fa fn "_law_table" ⟨2, n_law_table.length, b_law_table⟩ := ⟨d__law_table, n_law_table, 60, List.mem_of_getElem? (i := 11) rfl, List.mem_append_left _ (List.mem_append_left _ (List.mem_of_getElem? (i := 11) rfl)), rfl, rfl, rfl, by kernel_rfl, ⟨by kernel_rfl, by kernel_rfl, by kernel_rfl, by decide +kernel, by kernel_rfl, by decide +kernel, by decide +kernel⟩, by kernel_rfl, rfl, by kernel_rfl⟩
theorem e__law_digits : EntIn g fa fn "_law_digits" ⟨1, n_law_digits.length, b_law_digits⟩ := ⟨d__law_digits, n_law_digits, 60, List.mem_of_getElem? (i := 12) rfl, List.mem_append_left _ (List.mem_append_left _ (List.mem_of_getElem? (i := 12) rfl)), rfl, rfl, rfl, by kernel_rfl, ⟨by kernel_rfl, by kernel_rfl, by kernel_rfl, by decide +kernel, by kernel_rfl, by decide +kernel, by decide +kernel⟩, by kernel_rfl, rfl, by kernel_rfl⟩
theorem e__law_is_key : EntIn g fa fn "_law_is_key" ⟨1, n_law_is_key.length, b_law_is_key⟩ := ⟨d__law_is_key, n_law_is_key, 60, List.mem_of_getElem? (i := 13) rfl, List.mem_append_left _ (List.mem_append_left _ (List.mem_of_getElem? (i := 13) rfl)), rfl, rfl, rfl, by kernel_rfl, ⟨by kernel_rfl, by kernel_rfl, by kernel_rfl, by decide +kernel, by kernel_rfl, by decide +kernel, by decide +kernel⟩, by kernel_rfl, rfl, by kernel_rfl⟩
theorem e__law_is_value : EntIn g fa fn "_law_is_value" ⟨1, n_law_is_value.length, b_law_is_value⟩ := ⟨d__law_is_value, n_law_is_value, 60, List.mem_of_getElem? (i := 14) rfl, List.mem_append_left _ (List.mem_append_left _ (List.mem_of_getElem? (i := 14) rfl)), rfl, rfl, rfl, by kernel_rfl, ⟨by kernel_rfl, by kernel_rfl, by kernel_rfl, by decide +kernel, by kernel_rfl, by decide +kernel, by decide +kernel⟩, by kernel_rfl, rfl, by kernel_rfl⟩
theorem e__law_are_things : EntIn g fa fn "_law_are_things" ⟨1, n_law_are_things.length, b_law_are_things⟩ := ⟨d__law_are_things, n_law_are_things, 60, List.mem_of_getElem? (i := 15) rfl, List.mem_append_left _ (List.mem_append_left _ (List.mem_of_getElem? (i := 15) rfl)), rfl, rfl, rfl, by kernel_rfl, ⟨by kernel_rfl, by kernel_rfl, by kernel_rfl, by decide +kernel, by kernel_rfl, by decide +kernel, by decide +kernel⟩, by kernel_rfl, rfl, by kernel_rfl⟩
theorem e__law_is_told : EntIn g fa fn "_law_is_told" ⟨2, n_law_is_told.length, b_law_is_told⟩ := ⟨d__law_is_told, n_law_is_told, 60, List.mem_of_getElem? (i := 16) rfl, List.mem_append_left _ (List.mem_append_left _ (List.mem_of_getElem? (i := 16) rfl)), rfl, rfl, rfl, by kernel_rfl, ⟨by kernel_rfl, by kernel_rfl, by kernel_rfl, by decide +kernel, by kernel_rfl, by decide +kernel, by decide +kernel⟩, by kernel_rfl, rfl, by kernel_rfl⟩
theorem e__law_any : EntIn g fa fn "_law_any" ⟨2, n_law_any.length, b_law_any⟩ := ⟨d__law_any, n_law_any, 60, List.mem_of_getElem? (i := 17) rfl, List.mem_append_left _ (List.mem_append_left _ (List.mem_of_getElem? (i := 17) rfl)), rfl, rfl, rfl, by kernel_rfl, ⟨by kernel_rfl, by kernel_rfl, by kernel_rfl, by decide +kernel, by kernel_rfl, by decide +kernel, by decide +kernel⟩, by kernel_rfl, rfl, by kernel_rfl⟩
theorem e_law : EntIn g fa fn "law" ⟨1, n_law_k01.length, b_law_k01⟩ := ⟨d_law, n_law_k01, 60, List.mem_of_getElem? (i := 18) rfl, List.mem_append_left _ (List.mem_append_left _ (List.mem_of_getElem? (i := 18) rfl)), rfl, rfl, rfl, by kernel_rfl, ⟨by kernel_rfl, by kernel_rfl, by kernel_rfl, by decide +kernel, by kernel_rfl, by decide +kernel, by decide +kernel⟩, by kernel_rfl, rfl, by kernel_rfl⟩
theorem all_in : AllIn g fa fn := by
  refine ⟨fun p hp => ?_, fun x hx => List.mem_append_left _ (List.mem_append_right _ (List.mem_map_of_mem hx)), fun p hp => ?_⟩
  · simp only [g, T, List.mem_cons, List.not_mem_nil, or_false] at hp
    rcases hp with rfl | rfl | rfl | rfl | rfl | rfl | rfl | rfl | rfl | rfl | rfl | rfl | rfl | rfl | rfl | rfl | rfl | rfl | rfl
    · exact e_is_whole
    · exact e_is_key
    · exact e_is_value
    · exact e_is_thing
    · exact e_are_things
    · exact e_number_of
    · exact e_digits_of
    · exact e__law_feed
    · exact e__law_draw
    · exact e__law_key
    · exact e__law_value
    · exact e__law_table
    · exact e__law_digits
    · exact e__law_is_key
    · exact e__law_is_value
    · exact e__law_are_things
    · exact e__law_is_told
    · exact e__law_any
    · exact e_law
  · have h2 : (G.all fun q => match q.2 with | .int _ => true | .str s => PyData.strOk s | _ => false) = true := by kernel_rfl
    have h3 := List.mem_append_right ((T.map fun p => He.Fa.glo p.1) ++ bNames.map .free) (List.mem_map_of_mem (f := fun p : Str × D => match p.2 with | .int i => He.Fa.int p.1 i | .str s => He.Fa.str p.1 s | _ => He.Fa.glo p.1) hp)
    have h4 := List.all_eq_true.mp h2 p hp
    obtain ⟨x, d⟩ := p
    cases d with
    | int i => exact h3
    | str s => exact ⟨h3, h4⟩
    | _ => cases h4
def names : List Str := ["LETTERS", "LONGEST", "COUNTED", "NUMBERS", "MOST_THINGS", "GREATEST", "is_whole", "is_key", "is_value", "is_thing", "are_things", "number_of", "digits_of", "_law_feed", "_law_draw", "_law_key", "_law_value", "_law_table", "_law_digits", "_law_is_key", "_law_is_value", "_law_are_things", "_law_is_told", "_law_any"]
abbrev Rw : PySem.W.OpenRow := PySem.W.OpenLaw.row theLaw
abbrev hk : PySem.W.Hook := He.hookX 4 fa fn [] [] (fun _ => true)
def ob (s : PySem.W.SharedT) : He.AlX := He.obsX 4 fa fn [] [] (fun _ => true) (HandSHeadRun.getT s)
theorem ob_eq (s : PySem.W.SharedT) : ob s = hk.obs s.abs := He.obsX_eq (HandSHeadRun.getT_eq s)
theorem run (w : World) : HandSHeadRun.RunEq Rw (PySem.W.view Rw.prog [26]) hk ob 4000 names w := by
  intro os
  kernel_rfl
theorem h_is_whole : has QT "is_whole" f_is_whole := by kernel_rfl
theorem h_is_key : has QT "is_key" f_is_key := by kernel_rfl
theorem h_is_value : has QT "is_value" f_is_value := by kernel_rfl
theorem h_is_thing : has QT "is_thing" f_is_thing := by kernel_rfl
theorem h_are_things : has QT "are_things" f_are_things := by kernel_rfl
theorem h_number_of : has QT "number_of" f_number_of := by kernel_rfl
theorem h_digits_of : has QT "digits_of" f_digits_of := by kernel_rfl
theorem h_law_feed : has QT "_law_feed" f_law_feed := by kernel_rfl
theorem h_law_draw : has QT "_law_draw" f_law_draw := by kernel_rfl
theorem h_law_key : has QT "_law_key" f_law_key := by kernel_rfl
theorem h_law_value : has QT "_law_value" f_law_value := by kernel_rfl
theorem h_law_table : has QT "_law_table" f_law_table := by kernel_rfl
theorem h_law_digits : has QT "_law_digits" f_law_digits := by kernel_rfl
theorem h_law_is_key : has QT "_law_is_key" f_law_is_key := by kernel_rfl
theorem h_law_is_value : has QT "_law_is_value" f_law_is_value := by kernel_rfl
theorem h_law_are_things : has QT "_law_are_things" f_law_are_things := by kernel_rfl
theorem h_law_is_told : has QT "_law_is_told" f_law_is_told := by kernel_rfl
theorem h_law_any : has QT "_law_any" f_law_any := by kernel_rfl
theorem h_law : has QT "law" f_law_k01 := by kernel_rfl
end K01
-- LAWIX 26
set_option Elab.async false
set_option linter.all false
set_option maxRecDepth 100000
set_option maxHeartbeats 1000000
/-! small facts about values -/
namespace Pq
open PySem PySem.Spec PyProof.Rows L2 Pv
theorem sz_small {n : Nat} (h : n ≤ 10000000) : n ≤ sizeLine := by rw [sizeLine_eq]; omega
theorem eq_int {a b : Int} : eqW (.int a) (.int b) = some (decide (a = b)) := by
  simp only [eqW, pdW, PyData.eqv]
  first | rfl | (congr 1; rw [Bool.eq_iff_iff]; simp)
theorem eq_bl {a b : Bool} : eqW (.bl a) (.bl b) = some (decide (a = b)) := by
  simp only [eqW, pdW, PyData.eqv]
  cases a <;> cases b <;> rfl
theorem eq_str {a b : Str} : eqW (.str a) (.str b) = some (decide (a = b)) := by
  simp only [eqW, pdW, PyData.eqv]
  first | rfl | (congr 1; rw [Bool.eq_iff_iff]; simp)
section
variable {i j : Int} {a b : Str} {p q : Bool} {w : W}
theorem w_lt : cmpopW .Lt (.int i) (.int j) = some (decide (i < j)) := rfl
theorem w_gt : cmpopW .Gt (.int i) (.int j) = some (decide (j < i)) := rfl
theorem w_le : cmpopW .LtE (.int i) (.int j) = some (!decide (j < i)) := rfl
theorem w_ge : cmpopW .GtE (.int i) (.int j) = some (!decide (i < j)) := rfl
theorem w_lts : cmpopW .Lt (.str a) (.str b) = some (decide (a.cps.toList < b.cps.toList)) := rfl
theorem w_gts : cmpopW .Gt (.str a) (.str b) = some (decide (b.cps.toList < a.cps.toList)) := rfl
theorem w_les : cmpopW .LtE (.str a) (.str b) = some (!decide (b.cps.toList < a.cps.toList)) := rfl
theorem w_ges : cmpopW .GtE (.str a) (.str b) = some (!decide (a.cps.toList < b.cps.toList)) := rfl
theorem w_eq : cmpopW .Eq (.int i) (.int j) = some (decide (i = j)) := eq_int
theorem w_ne : cmpopW .NotEq (.int i) (.int j) = some (!decide (i = j)) := by simp only [cmpopW, eq_int, Option.map_some]
theorem w_eqb : cmpopW .Eq (.bl p) (.bl q) = some (decide (p = q)) := eq_bl
theorem w_neb : cmpopW .NotEq (.bl p) (.bl q) = some (!decide (p = q)) := by simp only [cmpopW, eq_bl, Option.map_some]
theorem w_eqs : cmpopW .Eq (.str a) (.str b) = some (decide (a = b)) := eq_str
theorem w_nes : cmpopW .NotEq (.str a) (.str b) = some (!decide (a = b)) := by simp only [cmpopW, eq_str, Option.map_some]
theorem w_isN : cmpopW .Is w .non = some (isNonW w) := rfl
theorem w_notN : cmpopW .IsNot w .non = some (!isNonW w) := rfl
theorem w_add : binopW .Add (.int i) (.int j) = some (.int (i + j)) := rfl
theorem w_sub : binopW .Sub (.int i) (.int j) = some (.int (i - j)) := rfl
theorem w_adds (h : a.length + b.length ≤ sizeLine) : binopW .Add (.str a) (.str b) = some (.str (a ++ b)) := if_pos h
theorem w_addt {x y : List W} (h : x.length + y.length ≤ sizeLine) : binopW .Add (.tup x) (.tup y) = some (.tup (x ++ y)) := if_pos h
theorem w_addl {x y : List W} (h : x.length + y.length ≤ sizeLine) : binopW .Add (.lst x) (.lst y) = some (.lst (x ++ y)) := if_pos h
theorem w_mul (h : -(2 ^ 64) < j ∧ j < 2 ^ 64) : binopW .Mult (.int i) (.int j) = some (.int (i * j)) := if_pos (.inr h)
theorem w_mul' (h : -(2 ^ 64) < i ∧ i < 2 ^ 64) : binopW .Mult (.int i) (.int j) = some (.int (i * j)) := if_pos (.inl h)
theorem w_mod (h : 0 < j) : binopW .Mod (.int i) (.int j) = some (.int (i % j)) := if_pos h
theorem w_div (h : 0 < j) (h2 : j < 1267650600228229401496703205376) : binopW .FloorDiv (.int i) (.int j) = some (.int (i / j)) := if_pos ⟨h, h2⟩
end
theorem atI_nat {α : Type} {xs : List α} {j : Nat} {d : α} (h : xs[j]? = some d) : atI xs ((j : Nat) : Int) = some d := by
  have hj : j < xs.length := (List.getElem?_eq_some_iff.mp h).1
  unfold atI ixN
  rw [if_pos (by omega), if_pos (by omega)]
  simpa using h
theorem sub_tup {xs : List W} {j : Nat} {d : W} {i : Int} (e : i = (j : Int)) (h : xs[j]? = some d) : subW (.tup xs) (.int i) = some d := by
  subst e; exact atI_nat h
theorem sub_lst {xs : List W} {j : Nat} {d : W} {i : Int} (e : i = (j : Int)) (h : xs[j]? = some d) : subW (.lst xs) (.int i) = some d := by
  subst e; exact atI_nat h
theorem sub_str {z : Str} {j : Nat} {c : Nat} {i : Int} (hz : z.length ≤ sizeLine) (e : i = (j : Int)) (h : z.cps.toList[j]? = some c) : subW (.str z) (.int i) = some (wsign c) := by
  subst e
  simp only [subW, if_pos hz, atI_nat h, Option.map_some]
theorem ixN_nat {n j : Nat} (h : j < n) : ixN n ((j : Nat) : Int) = some j := by
  unfold ixN
  rw [if_pos (by omega), if_pos (by omega)]
  simp
theorem set_lst {xs : List W} {j : Nat} {d : W} {i : Int} (e : i = (j : Int)) (h : j < xs.length) : setW (.lst xs) (.int i) d = some (.lst (xs.set j d)) := by
  subst e
  simp only [setW, ixN_nat h, Option.map_some]
theorem iter_rng2 {n : Nat} (h : n ≤ 16777216) : iterQ .range [.int 1, .int (n : Int)] = some ((List.range (n - 1)).map fun (k : Nat) => W.int (1 + k)) := by
  simp only [iterQ]
  rw [if_pos (by omega)]
  have : ((n : Int) - 1).toNat = n - 1 := by omega
  rw [this]
theorem iter_rng1 {n : Nat} {i : Int} (e : i = (n : Int)) (h : n ≤ 16777216) : iterQ .range [.int i] = some ((List.range n).map fun (k : Nat) => W.int (k : Int)) := by
  subst e
  simp only [iterQ]
  rw [if_pos (by omega)]
  simp
theorem i_tup {xs : List W} : iterQ .plain [.tup xs] = some xs := rfl
theorem i_lst {xs : List W} : iterQ .plain [.lst xs] = some xs := rfl
theorem i_str {a : Str} : iterQ .plain [.str a] = some (a.cps.toList.map wsign) := rfl
theorem i_rev {a : Str} (h : a.length ≤ sizeLine) : iterQ .rev [.str a] = some (a.cps.toList.map wsign).reverse := if_pos h
theorem bls_map : ∀ bs : List Bool, blsW (bs.map .bl) = some bs
  | [] => rfl
  | b :: bs => by simp only [List.map_cons, blsW, bls_map bs, Option.map_some]
theorem ints_map : ∀ bs : List Int, intsW (bs.map .int) = some bs
  | [] => rfl
  | b :: bs => by simp only [List.map_cons, intsW, ints_map bs, Option.map_some]
theorem strs_map : ∀ bs : List Str, strsW (bs.map .str) = some bs
  | [] => rfl
  | b :: bs => by simp only [List.map_cons, strsW, strs_map bs, Option.map_some]
theorem len_str {s : Str} (h : s.length ≤ sizeLine) : biW .len [.str s] = some (.int s.length) := if_pos h
theorem len_tup {ds : List W} : biW .len [.tup ds] = some (.int ds.length) := rfl
theorem len_lst {ds : List W} : biW .len [.lst ds] = some (.int ds.length) := rfl
theorem len_dic {ds : List (Key × W)} : biW .len [.dic ds] = some (.int ds.length) := by simp only [biW, seqW, Option.map_some, List.length_map]
theorem all_lst {α : Type} {xs : List α} {h : α → Bool} : biW .all [.lst (xs.map fun x => .bl (h x))] = some (.bl (xs.all h)) := by
  have : (xs.map fun x => W.bl (h x)) = (xs.map h).map .bl := by rw [List.map_map]; rfl
  rw [this]
  simp only [biW, bls_map, Option.map_some, List.all_map, Function.id_comp]
theorem sum_lst {α : Type} {xs : List α} {h : α → Int} : biW .sum [.lst (xs.map fun x => .int (h x))] = some (.int (xs.map h).sum) := by
  have : (xs.map fun x => W.int (h x)) = (xs.map h).map .int := by rw [List.map_map]; rfl
  rw [this]
  simp only [biW, ints_map, Option.map_some]
theorem tuple_lst {xs : List W} : biW .tuple [.lst xs] = some (.tup xs) := rfl
theorem slc_str {s : Str} {lo hi : Option Int} (h : s.length ≤ sizeLine) : slcW (.str s) lo hi = some (.str (cutS s lo hi)) := if_pos h
theorem in_sign {c : Nat} {z : Str} : cmpopW .In (wsign c) (.str z) = some (decide (c ∈ z.cps.toList)) := by simp only [cmpopW, inW, wsign]
theorem notin_sign {c : Nat} {z : Str} : cmpopW .NotIn (wsign c) (.str z) = some (!decide (c ∈ z.cps.toList)) := by simp only [cmpopW, inW, wsign, Option.map_some]
/-! ### trees without dicts -/
mutual
/-- no dict within; texts, tuples, lists of bounded length -/
def fitW : W → Bool
  | .str s => decide (s.length ≤ 100000)
  | .tup ws => decide (ws.length ≤ 100000) && fitWs ws
  | .fzl ws => decide (ws.length ≤ 100000) && fitWs ws
  | .lst ws => decide (ws.length ≤ 100000) && fitWs ws
  | .dic ws => decide (ws.length ≤ 100000)
  | _ => true
def fitWs : List W → Bool
  | [] => true
  | w :: ws => fitW w && fitWs ws
end
theorem fitWs_iff : ∀ {ws : List W}, fitWs ws = true ↔ ∀ w ∈ ws, fitW w = true
  | [] => by simp [fitWs]
  | w :: ws => by simp only [fitWs, Bool.and_eq_true, fitWs_iff, List.mem_cons, forall_eq_or_imp]
mutual
/-- the tree of a value -/
def pdT : W → PyData
  | .non => .none
  | .bl b => .bool b
  | .int i => .int i
  | .str s => .str s
  | .tup ws => .tuple (pdTs ws)
  | .fzl ws => .list (pdTs ws)
  | .lst ws => .list (pdTs ws)
  | .dic _ => .none
def pdTs : List W → List PyData
  | [] => []
  | w :: ws => pdT w :: pdTs ws
end
mutual
/-- how deep; of a dict too deep -/
def dep : W → Nat
  | .tup ws => deps ws + 1
  | .fzl ws => deps ws + 1
  | .lst ws => deps ws + 1
  | .dic _ => 1000
  | _ => 1
def deps : List W → Nat
  | [] => 0
  | w :: ws => max (dep w) (deps ws)
end
mutual
theorem pdW_eq : ∀ (n : Nat) (w : W), dep w ≤ n → n < 1000 → pdW n w = some (pdT w)
  | 0, w, h, _ => by cases w <;> simp [dep] at h
  | n + 1, .non, _, _ => by simp only [pdW, pdT]
  | n + 1, .bl _, _, _ => by simp only [pdW, pdT]
  | n + 1, .int _, _, _ => by simp only [pdW, pdT]
  | n + 1, .str _, _, _ => by simp only [pdW, pdT]
  | n + 1, .tup ws, h, l => by simp only [dep] at h; simp only [pdW, pdT, pdWs_eq n ws (by omega) (by omega), Option.map_some]
  | n + 1, .fzl ws, h, l => by simp only [dep] at h; simp only [pdW, pdT, pdWs_eq n ws (by omega) (by omega), Option.map_some]
  | n + 1, .lst ws, h, l => by simp only [dep] at h; simp only [pdW, pdT, pdWs_eq n ws (by omega) (by omega), Option.map_some]
  | n + 1, .dic _, h, l => by simp only [dep] at h; omega
theorem pdWs_eq : ∀ (n : Nat) (ws : List W), deps ws ≤ n → n < 1000 → ws.mapM (pdW n) = some (pdTs ws)
  | n, [], _, _ => by simp [pdTs]
  | n, w :: ws, h, l => by
    simp only [deps] at h
    rw [List.mapM_cons, pdW_eq n w (by omega) l, pdWs_eq n ws (by omega) l]
    rfl
end
theorem deps_le {n : Nat} : ∀ {ws : List W}, (∀ w ∈ ws, dep w ≤ n) → deps ws ≤ n
  | [], _ => Nat.zero_le _
  | w :: ws, h => by simp only [deps]; have := h w (by simp); have := deps_le (ws := ws) (n := n) fun x hx => h x (by simp [hx]); omega
theorem eqW_pd {x y : W} (hx : dep x ≤ 60) (hy : dep y ≤ 60) : eqW x y = some (PyData.eqv (pdT x) (pdT y)) := by
  simp only [eqW, pdW_eq 60 x hx (by omega), pdW_eq 60 y hy (by omega)]
/-- whether a tree can be told as a text -/
def fitP (p : PyData) : Bool := p.showable && (decide (p.shown.length ≤ 10000000) && PyData.strOk p.shown)
theorem repr_of {w : W} (h : dep w ≤ 60) (hf : fitP (pdT w) = true) : biW .repr [w] = some (.str (pdT w).shown) := by
  simp only [fitP, Bool.and_eq_true, decide_eq_true_eq] at hf
  simp only [biW, pdW_eq 60 w h (by omega)]
  rw [if_pos ⟨hf.1, sz_small hf.2.1, hf.2.2⟩]
end Pq
set_option Elab.async false
set_option linter.all false
set_option maxRecDepth 100000
set_option maxHeartbeats 1000000
/-! keys: what is told of any thing -/
namespace Pq
open PySem PySem.Spec PyProof.Rows L2 Pv
def wholeB : W → Bool
  | .int _ => true
  | _ => false
def lettersL : List Nat := (List.range 26).map (· + 97)
def keyB : W → Bool
  | .str s => decide (1 ≤ s.length ∧ s.length ≤ 8) && s.cps.toList.all fun c => decide (c ∈ lettersL)
  | _ => false
def valueB : W → Bool
  | .int i => decide (-100000000000000000000 < i ∧ i < 100000000000000000000)
  | _ => false
def thingB : W → Bool
  | .tup [a, b] => keyB a && valueB b
  | _ => false
def kcps (ds : List W) (j : Nat) : List Nat := match ds[j]? with
  | some (.tup (.str s :: _)) => s.cps.toList
  | _ => []
def incB (ds : List W) : Bool := (List.range (ds.length - 1)).all fun j => decide (kcps ds j < kcps ds (j + 1))
def thingsB : W → Bool
  | .tup ds => decide (ds.length ≤ 200) && (ds.all thingB && incB ds)
  | _ => false
theorem letters_cps : (Str.ofString "abcdefghijklmnopqrstuvwxyz").cps.toList = lettersL := by decide +kernel
theorem keyB_str {a : W} (h : keyB a = true) : ∃ s, a = .str s := by
  cases a <;> first | exact ⟨_, rfl⟩ | cases h
theorem thingB_str {x : W} (h : thingB x = true) : ∃ s b, x = .tup [.str s, b] := by
  unfold thingB at h
  split at h
  · rw [Bool.and_eq_true] at h
    obtain ⟨s, rfl⟩ := keyB_str h.1
    exact ⟨s, _, rfl⟩
  · cases h
theorem b_abs {i : Int} : biW .abs [.int i] = some (.int (if i < 0 then -i else i)) := rfl
structure LKeys (T : QTbl) : Prop where
  is_whole : has T "is_whole" f_is_whole
  is_key : has T "is_key" f_is_key
  is_value : has T "is_value" f_is_value
  is_thing : has T "is_thing" f_is_thing
  are_things : has T "are_things" f_are_things
  number_of : has T "number_of" f_number_of
  digits_of : has T "digits_of" f_digits_of
section
variable {T : QTbl} {F k : Nat} {w : W}
theorem is_whole_ok (h : has T "is_whole" f_is_whole) : callQ T F (k + 1) "is_whole" [w] = .ok (.bl (wholeB w)) [none] := by
  refine call_eq (wp_call h ⟨rfl, by decide, rfl⟩ ?_)
  cases w <;> simp -implicitDefEqProofs only [f_is_whole, b_is_whole, execsQ, execQ, evQ, evsQ, evoQ, evA, argOf, getAs, putAs, asgQ, asgsQ, bindQ, bind_ok, isB_ok, opt_ok, wp_bind, wp_ok, wp_isB, wp_opt, wp_back, back_ok, ofD, wipeQ, backQ, maskQ, atsLen, List.map_cons, List.map_nil, List.cons_append, List.nil_append, List.append_nil, List.take_succ_cons, List.take_zero, Nat.sub_self, Nat.reduceSub, Nat.reduceLT, Nat.reduceLeDiff, Nat.reduceAdd, Nat.reduceEqDiff, List.replicate_zero, List.replicate_succ, List.getElem?_cons_zero, List.getElem?_cons_succ, List.length_cons, List.length_nil, List.set_cons_zero, List.set_cons_succ, Bool.not_true, Bool.not_false, Bool.false_eq_true, if_true, if_false, reduceIte, reduceCtorEq, Option.map_some, Option.getD_some, Option.getD_none, Option.bind_some, Option.some.injEq, Nat.zero_add, isiW, muM, Int.cast_ofNat_Int, Int.ofNat_zero, Int.natCast_one, Int.reduceEq, Int.reduceLT, Int.reduceAdd, Int.reduceSub, decide_true, decide_false, wholeB, and_self]
/-- a test of signs -/
theorem all_signs {s : Str} {p : Nat → Bool} {f : W → Bool} (h : ∀ c, f (wsign c) = p c) : (s.cps.toList.map wsign).all f = s.cps.toList.all p := by
  rw [List.all_map]
  congr 1
  funext c
  exact h c
theorem is_key_ok (h : has T "is_key" f_is_key) (hf : fitW w = true) : callQ T F (k + 1) "is_key" [w] = .ok (.bl (keyB w)) [none] := by
  refine call_eq (wp_call h ⟨rfl, by decide, rfl⟩ ?_)
  cases w with
  | str s =>
    simp only [fitW, decide_eq_true_eq] at hf
    have hs : s.length ≤ sizeLine := sz_small (by omega)
    have e : evQ (callQ T F k) T c_is_key_1 [some (.str s), none, none] = .ok (.lst ((s.cps.toList.map wsign).map fun x => .bl (match x with | .str t => t.cps.toList.all fun c => decide (c ∈ lettersL) | _ => false))) [some (.str s), none, none] := by
      refine ev_map _ rfl i_str (by simpa [Str.length] using hs) (by simp [tgSl]) fun x hx => ?_
      obtain ⟨c, hc, rfl⟩ := List.mem_map.mp hx
      refine ⟨_, rfl, ?_⟩
      simp -implicitDefEqProofs only [execsQ, execQ, evQ, evsQ, evoQ, evA, argOf, getAs, putAs, asgQ, asgsQ, bindQ, bind_ok, isB_ok, opt_ok, wp_bind, wp_ok, wp_isB, wp_opt, wp_back, back_ok, ofD, wipeQ, backQ, maskQ, atsLen, List.map_cons, List.map_nil, List.cons_append, List.nil_append, List.append_nil, List.take_succ_cons, List.take_zero, Nat.sub_self, Nat.reduceSub, Nat.reduceLT, Nat.reduceLeDiff, Nat.reduceAdd, Nat.reduceEqDiff, List.replicate_zero, List.replicate_succ, List.getElem?_cons_zero, List.getElem?_cons_succ, List.length_cons, List.length_nil, List.set_cons_zero, List.set_cons_succ, Bool.not_true, Bool.not_false, Bool.false_eq_true, if_true, if_false, reduceIte, reduceCtorEq, Option.map_some, Option.getD_some, Option.getD_none, Option.bind_some, Option.some.injEq, Nat.zero_add, isiW, muM, Int.cast_ofNat_Int, Int.ofNat_zero, Int.natCast_one, Int.reduceEq, Int.reduceLT, Int.reduceAdd, Int.reduceSub, decide_true, decide_false, in_sign, letters_cps]
      simp [wsign]
    simp -implicitDefEqProofs only [f_is_key, b_is_key, execsQ, execQ, evQ, evsQ, evoQ, evA, argOf, getAs, putAs, asgQ, asgsQ, bindQ, bind_ok, isB_ok, opt_ok, wp_bind, wp_ok, wp_isB, wp_opt, wp_back, back_ok, ofD, wipeQ, backQ, maskQ, atsLen, List.map_cons, List.map_nil, List.cons_append, List.nil_append, List.append_nil, List.take_succ_cons, List.take_zero, Nat.sub_self, Nat.reduceSub, Nat.reduceLT, Nat.reduceLeDiff, Nat.reduceAdd, Nat.reduceEqDiff, List.replicate_zero, List.replicate_succ, List.getElem?_cons_zero, List.getElem?_cons_succ, List.length_cons, List.length_nil, List.set_cons_zero, List.set_cons_succ, Bool.not_true, Bool.not_false, Bool.false_eq_true, if_true, if_false, reduceIte, reduceCtorEq, Option.map_some, Option.getD_some, Option.getD_none, Option.bind_some, Option.some.injEq, Nat.zero_add, isiW, muM, Int.cast_ofNat_Int, Int.ofNat_zero, Int.natCast_one, Int.reduceEq, Int.reduceLT, Int.reduceAdd, Int.reduceSub, decide_true, decide_false, w_lt, w_gt, w_le, w_ge, w_lts, w_gts, w_les, w_ges, w_eq, w_ne, w_eqb, w_neb, w_eqs, w_nes, w_add, w_sub, w_isN, w_notN, len_str hs, keyB]
    by_cases h1 : (s.length : Int) < 1
    · have h2 : ¬ (1 ≤ s.length ∧ s.length ≤ 8) := by omega
      simp -implicitDefEqProofs only [decide_eq_true h1, execsQ, execQ, evQ, evsQ, evoQ, evA, argOf, getAs, putAs, asgQ, asgsQ, bindQ, bind_ok, isB_ok, opt_ok, wp_bind, wp_ok, wp_isB, wp_opt, wp_back, back_ok, ofD, wipeQ, backQ, maskQ, atsLen, List.map_cons, List.map_nil, List.cons_append, List.nil_append, List.append_nil, List.take_succ_cons, List.take_zero, Nat.sub_self, Nat.reduceSub, Nat.reduceLT, Nat.reduceLeDiff, Nat.reduceAdd, Nat.reduceEqDiff, List.replicate_zero, List.replicate_succ, List.getElem?_cons_zero, List.getElem?_cons_succ, List.length_cons, List.length_nil, List.set_cons_zero, List.set_cons_succ, Bool.not_true, Bool.not_false, Bool.false_eq_true, if_true, if_false, reduceIte, reduceCtorEq, Option.map_some, Option.getD_some, Option.getD_none, Option.bind_some, Option.some.injEq, Nat.zero_add, isiW, muM, Int.cast_ofNat_Int, Int.ofNat_zero, Int.natCast_one, Int.reduceEq, Int.reduceLT, Int.reduceAdd, Int.reduceSub, decide_true, decide_false, decide_eq_false h2, Bool.false_and, and_self]
    · by_cases h3 : (8 : Int) < (s.length : Int)
      · have h2 : ¬ (1 ≤ s.length ∧ s.length ≤ 8) := by omega
        simp -implicitDefEqProofs only [decide_eq_false h1, decide_eq_true h3, execsQ, execQ, evQ, evsQ, evoQ, evA, argOf, getAs, putAs, asgQ, asgsQ, bindQ, bind_ok, isB_ok, opt_ok, wp_bind, wp_ok, wp_isB, wp_opt, wp_back, back_ok, ofD, wipeQ, backQ, maskQ, atsLen, List.map_cons, List.map_nil, List.cons_append, List.nil_append, List.append_nil, List.take_succ_cons, List.take_zero, Nat.sub_self, Nat.reduceSub, Nat.reduceLT, Nat.reduceLeDiff, Nat.reduceAdd, Nat.reduceEqDiff, List.replicate_zero, List.replicate_succ, List.getElem?_cons_zero, List.getElem?_cons_succ, List.length_cons, List.length_nil, List.set_cons_zero, List.set_cons_succ, Bool.not_true, Bool.not_false, Bool.false_eq_true, if_true, if_false, reduceIte, reduceCtorEq, Option.map_some, Option.getD_some, Option.getD_none, Option.bind_some, Option.some.injEq, Nat.zero_add, isiW, muM, Int.cast_ofNat_Int, Int.ofNat_zero, Int.natCast_one, Int.reduceEq, Int.reduceLT, Int.reduceAdd, Int.reduceSub, decide_true, decide_false, w_lt, w_gt, w_le, w_ge, w_lts, w_gts, w_les, w_ges, w_eq, w_ne, w_eqb, w_neb, w_eqs, w_nes, w_add, w_sub, w_isN, w_notN, decide_eq_false h2, Bool.false_and, and_self]
      · have h2 : 1 ≤ s.length ∧ s.length ≤ 8 := by omega
        simp -implicitDefEqProofs only [decide_eq_false h1, decide_eq_false h3, decide_eq_true h2, e, execsQ, execQ, evQ, evsQ, evoQ, evA, argOf, getAs, putAs, asgQ, asgsQ, bindQ, bind_ok, isB_ok, opt_ok, wp_bind, wp_ok, wp_isB, wp_opt, wp_back, back_ok, ofD, wipeQ, backQ, maskQ, atsLen, List.map_cons, List.map_nil, List.cons_append, List.nil_append, List.append_nil, List.take_succ_cons, List.take_zero, Nat.sub_self, Nat.reduceSub, Nat.reduceLT, Nat.reduceLeDiff, Nat.reduceAdd, Nat.reduceEqDiff, List.replicate_zero, List.replicate_succ, List.getElem?_cons_zero, List.getElem?_cons_succ, List.length_cons, List.length_nil, List.set_cons_zero, List.set_cons_succ, Bool.not_true, Bool.not_false, Bool.false_eq_true, if_true, if_false, reduceIte, reduceCtorEq, Option.map_some, Option.getD_some, Option.getD_none, Option.bind_some, Option.some.injEq, Nat.zero_add, isiW, muM, Int.cast_ofNat_Int, Int.ofNat_zero, Int.natCast_one, Int.reduceEq, Int.reduceLT, Int.reduceAdd, Int.reduceSub, decide_true, decide_false, w_lt, w_gt, w_le, w_ge, w_lts, w_gts, w_les, w_ges, w_eq, w_ne, w_eqb, w_neb, w_eqs, w_nes, w_add, w_sub, w_isN, w_notN, all_lst, Bool.true_and, and_true]
        rw [all_signs (p := fun c => decide (c ∈ lettersL)) (fun c => by simp [wsign])]
  | _ => simp -implicitDefEqProofs only [f_is_key, b_is_key, execsQ, execQ, evQ, evsQ, evoQ, evA, argOf, getAs, putAs, asgQ, asgsQ, bindQ, bind_ok, isB_ok, opt_ok, wp_bind, wp_ok, wp_isB, wp_opt, wp_back, back_ok, ofD, wipeQ, backQ, maskQ, atsLen, List.map_cons, List.map_nil, List.cons_append, List.nil_append, List.append_nil, List.take_succ_cons, List.take_zero, Nat.sub_self, Nat.reduceSub, Nat.reduceLT, Nat.reduceLeDiff, Nat.reduceAdd, Nat.reduceEqDiff, List.replicate_zero, List.replicate_succ, List.getElem?_cons_zero, List.getElem?_cons_succ, List.length_cons, List.length_nil, List.set_cons_zero, List.set_cons_succ, Bool.not_true, Bool.not_false, Bool.false_eq_true, if_true, if_false, reduceIte, reduceCtorEq, Option.map_some, Option.getD_some, Option.getD_none, Option.bind_some, Option.some.injEq, Nat.zero_add, isiW, muM, Int.cast_ofNat_Int, Int.ofNat_zero, Int.natCast_one, Int.reduceEq, Int.reduceLT, Int.reduceAdd, Int.reduceSub, decide_true, decide_false, keyB, and_self]
theorem is_value_ok (L : LKeys T) : callQ T F (k + 2) "is_value" [w] = .ok (.bl (valueB w)) [none] := by
  refine call_eq (wp_call L.is_value ⟨rfl, by decide, rfl⟩ ?_)
  have e := @is_whole_ok T F k w L.is_whole
  cases w with
  | int i =>
    simp -implicitDefEqProofs only [f_is_value, b_is_value, execsQ, execQ, evQ, evsQ, evoQ, evA, argOf, getAs, putAs, asgQ, asgsQ, bindQ, bind_ok, isB_ok, opt_ok, wp_bind, wp_ok, wp_isB, wp_opt, wp_back, back_ok, ofD, wipeQ, backQ, maskQ, atsLen, List.map_cons, List.map_nil, List.cons_append, List.nil_append, List.append_nil, List.take_succ_cons, List.take_zero, Nat.sub_self, Nat.reduceSub, Nat.reduceLT, Nat.reduceLeDiff, Nat.reduceAdd, Nat.reduceEqDiff, List.replicate_zero, List.replicate_succ, List.getElem?_cons_zero, List.getElem?_cons_succ, List.length_cons, List.length_nil, List.set_cons_zero, List.set_cons_succ, Bool.not_true, Bool.not_false, Bool.false_eq_true, if_true, if_false, reduceIte, reduceCtorEq, Option.map_some, Option.getD_some, Option.getD_none, Option.bind_some, Option.some.injEq, Nat.zero_add, isiW, muM, Int.cast_ofNat_Int, Int.ofNat_zero, Int.natCast_one, Int.reduceEq, Int.reduceLT, Int.reduceAdd, Int.reduceSub, decide_true, decide_false, L.is_whole, f_is_whole, e, wholeB, b_abs, w_lt, w_gt, w_le, w_ge, w_lts, w_gts, w_les, w_ges, w_eq, w_ne, w_eqb, w_neb, w_eqs, w_nes, w_add, w_sub, w_isN, w_notN, valueB, and_true]
    congr 1
    split <;> exact decide_eq_decide.mpr ⟨fun h => by omega, fun h => by omega⟩
  | _ => simp -implicitDefEqProofs only [f_is_value, b_is_value, execsQ, execQ, evQ, evsQ, evoQ, evA, argOf, getAs, putAs, asgQ, asgsQ, bindQ, bind_ok, isB_ok, opt_ok, wp_bind, wp_ok, wp_isB, wp_opt, wp_back, back_ok, ofD, wipeQ, backQ, maskQ, atsLen, List.map_cons, List.map_nil, List.cons_append, List.nil_append, List.append_nil, List.take_succ_cons, List.take_zero, Nat.sub_self, Nat.reduceSub, Nat.reduceLT, Nat.reduceLeDiff, Nat.reduceAdd, Nat.reduceEqDiff, List.replicate_zero, List.replicate_succ, List.getElem?_cons_zero, List.getElem?_cons_succ, List.length_cons, List.length_nil, List.set_cons_zero, List.set_cons_succ, Bool.not_true, Bool.not_false, Bool.false_eq_true, if_true, if_false, reduceIte, reduceCtorEq, Option.map_some, Option.getD_some, Option.getD_none, Option.bind_some, Option.some.injEq, Nat.zero_add, isiW, muM, Int.cast_ofNat_Int, Int.ofNat_zero, Int.natCast_one, Int.reduceEq, Int.reduceLT, Int.reduceAdd, Int.reduceSub, decide_true, decide_false, L.is_whole, f_is_whole, e, wholeB, valueB, and_self]
theorem fit_two {a b : W} (h : fitW (.tup [a, b]) = true) : fitW a = true ∧ fitW b = true := by
  simp only [fitW, fitWs, Bool.and_eq_true, Bool.and_true] at h
  exact h.2
theorem is_thing_ok (L : LKeys T) (hf : fitW w = true) : callQ T F (k + 3) "is_thing" [w] = .ok (.bl (thingB w)) [none] := by
  refine call_eq (wp_call L.is_thing ⟨rfl, by decide, rfl⟩ ?_)
  cases w with
  | tup ws =>
    simp -implicitDefEqProofs only [f_is_thing, b_is_thing, execsQ, execQ, evQ, evsQ, evoQ, evA, argOf, getAs, putAs, asgQ, asgsQ, bindQ, bind_ok, isB_ok, opt_ok, wp_bind, wp_ok, wp_isB, wp_opt, wp_back, back_ok, ofD, wipeQ, backQ, maskQ, atsLen, List.map_cons, List.map_nil, List.cons_append, List.nil_append, List.append_nil, List.take_succ_cons, List.take_zero, Nat.sub_self, Nat.reduceSub, Nat.reduceLT, Nat.reduceLeDiff, Nat.reduceAdd, Nat.reduceEqDiff, List.replicate_zero, List.replicate_succ, List.getElem?_cons_zero, List.getElem?_cons_succ, List.length_cons, List.length_nil, List.set_cons_zero, List.set_cons_succ, Bool.not_true, Bool.not_false, Bool.false_eq_true, if_true, if_false, reduceIte, reduceCtorEq, Option.map_some, Option.getD_some, Option.getD_none, Option.bind_some, Option.some.injEq, Nat.zero_add, isiW, muM, Int.cast_ofNat_Int, Int.ofNat_zero, Int.natCast_one, Int.reduceEq, Int.reduceLT, Int.reduceAdd, Int.reduceSub, decide_true, decide_false, len_tup, w_lt, w_gt, w_le, w_ge, w_lts, w_gts, w_les, w_ges, w_eq, w_ne, w_eqb, w_neb, w_eqs, w_nes, w_add, w_sub, w_isN, w_notN]
    by_cases h2 : (ws.length : Int) = 2
    · match ws, h2 with
      | [a, b], _ =>
        obtain ⟨fa, fb⟩ := fit_two hf
        have e1 := @is_key_ok T F (k + 1) a L.is_key fa
        have e2 := @is_value_ok T F k b L
        have s0 : subW (.tup [a, b]) (.int 0) = some a := rfl
        have s1 : subW (.tup [a, b]) (.int 1) = some b := rfl
        simp -implicitDefEqProofs only [execsQ, execQ, evQ, evsQ, evoQ, evA, argOf, getAs, putAs, asgQ, asgsQ, bindQ, bind_ok, isB_ok, opt_ok, wp_bind, wp_ok, wp_isB, wp_opt, wp_back, back_ok, ofD, wipeQ, backQ, maskQ, atsLen, List.map_cons, List.map_nil, List.cons_append, List.nil_append, List.append_nil, List.take_succ_cons, List.take_zero, Nat.sub_self, Nat.reduceSub, Nat.reduceLT, Nat.reduceLeDiff, Nat.reduceAdd, Nat.reduceEqDiff, List.replicate_zero, List.replicate_succ, List.getElem?_cons_zero, List.getElem?_cons_succ, List.length_cons, List.length_nil, List.set_cons_zero, List.set_cons_succ, Bool.not_true, Bool.not_false, Bool.false_eq_true, if_true, if_false, reduceIte, reduceCtorEq, Option.map_some, Option.getD_some, Option.getD_none, Option.bind_some, Option.some.injEq, Nat.zero_add, isiW, muM, Int.cast_ofNat_Int, Int.ofNat_zero, Int.natCast_one, Int.reduceEq, Int.reduceLT, Int.reduceAdd, Int.reduceSub, decide_true, decide_false, L.is_key, L.is_value, f_is_key, f_is_value, s0, s1, e1, e2, Int.cast_ofNat_Int, decide_true, thingB]
        cases keyB a <;> simp -implicitDefEqProofs only [execsQ, execQ, evQ, evsQ, evoQ, evA, argOf, getAs, putAs, asgQ, asgsQ, bindQ, bind_ok, isB_ok, opt_ok, wp_bind, wp_ok, wp_isB, wp_opt, wp_back, back_ok, ofD, wipeQ, backQ, maskQ, atsLen, List.map_cons, List.map_nil, List.cons_append, List.nil_append, List.append_nil, List.take_succ_cons, List.take_zero, Nat.sub_self, Nat.reduceSub, Nat.reduceLT, Nat.reduceLeDiff, Nat.reduceAdd, Nat.reduceEqDiff, List.replicate_zero, List.replicate_succ, List.getElem?_cons_zero, List.getElem?_cons_succ, List.length_cons, List.length_nil, List.set_cons_zero, List.set_cons_succ, Bool.not_true, Bool.not_false, Bool.false_eq_true, if_true, if_false, reduceIte, reduceCtorEq, Option.map_some, Option.getD_some, Option.getD_none, Option.bind_some, Option.some.injEq, Nat.zero_add, isiW, muM, Int.cast_ofNat_Int, Int.ofNat_zero, Int.natCast_one, Int.reduceEq, Int.reduceLT, Int.reduceAdd, Int.reduceSub, decide_true, decide_false, L.is_value, f_is_value, s1, e2, Bool.true_and, Bool.false_and, and_self]
    · have : thingB (.tup ws) = false := by
        unfold thingB
        split
        · rename_i e; cases e; exact absurd rfl h2
        · rfl
      simp -implicitDefEqProofs only [decide_eq_false h2, execsQ, execQ, evQ, evsQ, evoQ, evA, argOf, getAs, putAs, asgQ, asgsQ, bindQ, bind_ok, isB_ok, opt_ok, wp_bind, wp_ok, wp_isB, wp_opt, wp_back, back_ok, ofD, wipeQ, backQ, maskQ, atsLen, List.map_cons, List.map_nil, List.cons_append, List.nil_append, List.append_nil, List.take_succ_cons, List.take_zero, Nat.sub_self, Nat.reduceSub, Nat.reduceLT, Nat.reduceLeDiff, Nat.reduceAdd, Nat.reduceEqDiff, List.replicate_zero, List.replicate_succ, List.getElem?_cons_zero, List.getElem?_cons_succ, List.length_cons, List.length_nil, List.set_cons_zero, List.set_cons_succ, Bool.not_true, Bool.not_false, Bool.false_eq_true, if_true, if_false, reduceIte, reduceCtorEq, Option.map_some, Option.getD_some, Option.getD_none, Option.bind_some, Option.some.injEq, Nat.zero_add, isiW, muM, Int.cast_ofNat_Int, Int.ofNat_zero, Int.natCast_one, Int.reduceEq, Int.reduceLT, Int.reduceAdd, Int.reduceSub, decide_true, decide_false, this, and_self]
  | _ => simp -implicitDefEqProofs only [f_is_thing, b_is_thing, execsQ, execQ, evQ, evsQ, evoQ, evA, argOf, getAs, putAs, asgQ, asgsQ, bindQ, bind_ok, isB_ok, opt_ok, wp_bind, wp_ok, wp_isB, wp_opt, wp_back, back_ok, ofD, wipeQ, backQ, maskQ, atsLen, List.map_cons, List.map_nil, List.cons_append, List.nil_append, List.append_nil, List.take_succ_cons, List.take_zero, Nat.sub_self, Nat.reduceSub, Nat.reduceLT, Nat.reduceLeDiff, Nat.reduceAdd, Nat.reduceEqDiff, List.replicate_zero, List.replicate_succ, List.getElem?_cons_zero, List.getElem?_cons_succ, List.length_cons, List.length_nil, List.set_cons_zero, List.set_cons_succ, Bool.not_true, Bool.not_false, Bool.false_eq_true, if_true, if_false, reduceIte, reduceCtorEq, Option.map_some, Option.getD_some, Option.getD_none, Option.bind_some, Option.some.injEq, Nat.zero_add, isiW, muM, Int.cast_ofNat_Int, Int.ofNat_zero, Int.natCast_one, Int.reduceEq, Int.reduceLT, Int.reduceAdd, Int.reduceSub, decide_true, decide_false, thingB, and_self]
theorem kcps_at {ws : List W} {j : Nat} {s : Str} {b : W} (h : ws[j]? = some (.tup [.str s, b])) : kcps ws j = s.cps.toList := by
  unfold kcps; rw [h]
theorem are_things_ok (L : LKeys T) (hf : fitW w = true) : callQ T F (k + 4) "are_things" [w] = .ok (.bl (thingsB w)) [none] := by
  refine call_eq (wp_call L.are_things ⟨rfl, by decide, rfl⟩ ?_)
  cases w with
  | tup ws =>
    simp only [fitW, Bool.and_eq_true, decide_eq_true_eq, fitWs_iff] at hf
    have hl : ws.length ≤ sizeLine := sz_small (by omega)
    have e1 : evQ (callQ T F (k + 3)) T c_are_things_1 [some (.tup ws), none, none, none] = .ok (.lst (ws.map fun x => .bl (thingB x))) [some (.tup ws), none, none, none] := by
      refine ev_map _ rfl i_tup hl (by simp [tgSl]) fun x hx => ⟨_, rfl, ?_⟩
      simp -implicitDefEqProofs only [execsQ, execQ, evQ, evsQ, evoQ, evA, argOf, getAs, putAs, asgQ, asgsQ, bindQ, bind_ok, isB_ok, opt_ok, wp_bind, wp_ok, wp_isB, wp_opt, wp_back, back_ok, ofD, wipeQ, backQ, maskQ, atsLen, List.map_cons, List.map_nil, List.cons_append, List.nil_append, List.append_nil, List.take_succ_cons, List.take_zero, Nat.sub_self, Nat.reduceSub, Nat.reduceLT, Nat.reduceLeDiff, Nat.reduceAdd, Nat.reduceEqDiff, List.replicate_zero, List.replicate_succ, List.getElem?_cons_zero, List.getElem?_cons_succ, List.length_cons, List.length_nil, List.set_cons_zero, List.set_cons_succ, Bool.not_true, Bool.not_false, Bool.false_eq_true, if_true, if_false, reduceIte, reduceCtorEq, Option.map_some, Option.getD_some, Option.getD_none, Option.bind_some, Option.some.injEq, Nat.zero_add, isiW, muM, Int.cast_ofNat_Int, Int.ofNat_zero, Int.natCast_one, Int.reduceEq, Int.reduceLT, Int.reduceAdd, Int.reduceSub, decide_true, decide_false, L.is_thing, f_is_thing, is_thing_ok L (hf.2 x hx)]
    simp -implicitDefEqProofs only [f_are_things, b_are_things, w_are_things_1, t_are_things_1, execsQ, execQ, evQ, evsQ, evoQ, evA, argOf, getAs, putAs, asgQ, asgsQ, bindQ, bind_ok, isB_ok, opt_ok, wp_bind, wp_ok, wp_isB, wp_opt, wp_back, back_ok, ofD, wipeQ, backQ, maskQ, atsLen, List.map_cons, List.map_nil, List.cons_append, List.nil_append, List.append_nil, List.take_succ_cons, List.take_zero, Nat.sub_self, Nat.reduceSub, Nat.reduceLT, Nat.reduceLeDiff, Nat.reduceAdd, Nat.reduceEqDiff, List.replicate_zero, List.replicate_succ, List.getElem?_cons_zero, List.getElem?_cons_succ, List.length_cons, List.length_nil, List.set_cons_zero, List.set_cons_succ, Bool.not_true, Bool.not_false, Bool.false_eq_true, if_true, if_false, reduceIte, reduceCtorEq, Option.map_some, Option.getD_some, Option.getD_none, Option.bind_some, Option.some.injEq, Nat.zero_add, isiW, muM, Int.cast_ofNat_Int, Int.ofNat_zero, Int.natCast_one, Int.reduceEq, Int.reduceLT, Int.reduceAdd, Int.reduceSub, decide_true, decide_false, len_tup, w_lt, w_gt, w_le, w_ge, w_lts, w_gts, w_les, w_ges, w_eq, w_ne, w_eqb, w_neb, w_eqs, w_nes, w_add, w_sub, w_isN, w_notN]
    by_cases h2 : (200 : Int) < ws.length
    · have h3 : ¬ ws.length ≤ 200 := by omega
      simp -implicitDefEqProofs only [decide_eq_true h2, execsQ, execQ, evQ, evsQ, evoQ, evA, argOf, getAs, putAs, asgQ, asgsQ, bindQ, bind_ok, isB_ok, opt_ok, wp_bind, wp_ok, wp_isB, wp_opt, wp_back, back_ok, ofD, wipeQ, backQ, maskQ, atsLen, List.map_cons, List.map_nil, List.cons_append, List.nil_append, List.append_nil, List.take_succ_cons, List.take_zero, Nat.sub_self, Nat.reduceSub, Nat.reduceLT, Nat.reduceLeDiff, Nat.reduceAdd, Nat.reduceEqDiff, List.replicate_zero, List.replicate_succ, List.getElem?_cons_zero, List.getElem?_cons_succ, List.length_cons, List.length_nil, List.set_cons_zero, List.set_cons_succ, Bool.not_true, Bool.not_false, Bool.false_eq_true, if_true, if_false, reduceIte, reduceCtorEq, Option.map_some, Option.getD_some, Option.getD_none, Option.bind_some, Option.some.injEq, Nat.zero_add, isiW, muM, Int.cast_ofNat_Int, Int.ofNat_zero, Int.natCast_one, Int.reduceEq, Int.reduceLT, Int.reduceAdd, Int.reduceSub, decide_true, decide_false, thingsB, decide_eq_false h3, Bool.false_and, and_self]
    · have h3 : ws.length ≤ 200 := by omega
      simp -implicitDefEqProofs only [decide_eq_false h2, e1, all_lst, execsQ, execQ, evQ, evsQ, evoQ, evA, argOf, getAs, putAs, asgQ, asgsQ, bindQ, bind_ok, isB_ok, opt_ok, wp_bind, wp_ok, wp_isB, wp_opt, wp_back, back_ok, ofD, wipeQ, backQ, maskQ, atsLen, List.map_cons, List.map_nil, List.cons_append, List.nil_append, List.append_nil, List.take_succ_cons, List.take_zero, Nat.sub_self, Nat.reduceSub, Nat.reduceLT, Nat.reduceLeDiff, Nat.reduceAdd, Nat.reduceEqDiff, List.replicate_zero, List.replicate_succ, List.getElem?_cons_zero, List.getElem?_cons_succ, List.length_cons, List.length_nil, List.set_cons_zero, List.set_cons_succ, Bool.not_true, Bool.not_false, Bool.false_eq_true, if_true, if_false, reduceIte, reduceCtorEq, Option.map_some, Option.getD_some, Option.getD_none, Option.bind_some, Option.some.injEq, Nat.zero_add, isiW, muM, Int.cast_ofNat_Int, Int.ofNat_zero, Int.natCast_one, Int.reduceEq, Int.reduceLT, Int.reduceAdd, Int.reduceSub, decide_true, decide_false, thingsB, decide_eq_true h3, Bool.true_and]
      cases ha : ws.all thingB with
      | false => simp -implicitDefEqProofs only [execsQ, execQ, evQ, evsQ, evoQ, evA, argOf, getAs, putAs, asgQ, asgsQ, bindQ, bind_ok, isB_ok, opt_ok, wp_bind, wp_ok, wp_isB, wp_opt, wp_back, back_ok, ofD, wipeQ, backQ, maskQ, atsLen, List.map_cons, List.map_nil, List.cons_append, List.nil_append, List.append_nil, List.take_succ_cons, List.take_zero, Nat.sub_self, Nat.reduceSub, Nat.reduceLT, Nat.reduceLeDiff, Nat.reduceAdd, Nat.reduceEqDiff, List.replicate_zero, List.replicate_succ, List.getElem?_cons_zero, List.getElem?_cons_succ, List.length_cons, List.length_nil, List.set_cons_zero, List.set_cons_succ, Bool.not_true, Bool.not_false, Bool.false_eq_true, if_true, if_false, reduceIte, reduceCtorEq, Option.map_some, Option.getD_some, Option.getD_none, Option.bind_some, Option.some.injEq, Nat.zero_add, isiW, muM, Int.cast_ofNat_Int, Int.ofNat_zero, Int.natCast_one, Int.reduceEq, Int.reduceLT, Int.reduceAdd, Int.reduceSub, decide_true, decide_false, Bool.false_and, and_self]
      | true =>
        have hn : (List.range (ws.length - 1)).length ≤ sizeLine := by rw [List.length_range]; omega
        rw [List.all_eq_true] at ha
        have at_ : ∀ j, j < ws.length → ∃ s b, ws[j]? = some (.tup [.str s, b]) := fun j hj => by
          obtain ⟨s, b, e⟩ := thingB_str (ha ws[j] (List.getElem_mem hj))
          exact ⟨s, b, by rw [List.getElem?_eq_getElem hj, e]⟩
        have e2 : evQ (callQ T F (k + 3)) T c_are_things_2 [some (.tup ws), none, none, none] = .ok (.lst (((List.range (ws.length - 1)).map fun (k : Nat) => W.int (1 + k)).map fun x => .bl (match x with | .int i => decide (kcps ws (i - 1).toNat < kcps ws i.toNat) | _ => false))) [some (.tup ws), none, none, none] := by
          refine ev_map _ (ds := [.int 1, .int ws.length]) (by simp -implicitDefEqProofs only [execsQ, execQ, evQ, evsQ, evoQ, evA, argOf, getAs, putAs, asgQ, asgsQ, bindQ, bind_ok, isB_ok, opt_ok, wp_bind, wp_ok, wp_isB, wp_opt, wp_back, back_ok, ofD, wipeQ, backQ, maskQ, atsLen, List.map_cons, List.map_nil, List.cons_append, List.nil_append, List.append_nil, List.take_succ_cons, List.take_zero, Nat.sub_self, Nat.reduceSub, Nat.reduceLT, Nat.reduceLeDiff, Nat.reduceAdd, Nat.reduceEqDiff, List.replicate_zero, List.replicate_succ, List.getElem?_cons_zero, List.getElem?_cons_succ, List.length_cons, List.length_nil, List.set_cons_zero, List.set_cons_succ, Bool.not_true, Bool.not_false, Bool.false_eq_true, if_true, if_false, reduceIte, reduceCtorEq, Option.map_some, Option.getD_some, Option.getD_none, Option.bind_some, Option.some.injEq, Nat.zero_add, isiW, muM, Int.cast_ofNat_Int, Int.ofNat_zero, Int.natCast_one, Int.reduceEq, Int.reduceLT, Int.reduceAdd, Int.reduceSub, decide_true, decide_false, len_tup]) (iter_rng2 (by omega)) (by rw [List.length_map]; exact hn) (by simp [tgSl]) fun x hx => ⟨_, rfl, ?_⟩
          obtain ⟨j, hj, rfl⟩ := List.mem_map.mp hx
          rw [List.mem_range] at hj
          obtain ⟨s, b, e1⟩ := at_ j (by omega)
          obtain ⟨s', b', e2⟩ := at_ (j + 1) (by omega)
          have i1 : (1 : Int) + j - 1 = (j : Int) := by omega
          have i2 : (1 : Int) + j = ((j + 1 : Nat) : Int) := by omega
          have s0 : ∀ (s : Str) (b : W), subW (.tup [.str s, b]) (.int 0) = some (.str s) := fun _ _ => rfl
          simp -implicitDefEqProofs only [execsQ, execQ, evQ, evsQ, evoQ, evA, argOf, getAs, putAs, asgQ, asgsQ, bindQ, bind_ok, isB_ok, opt_ok, wp_bind, wp_ok, wp_isB, wp_opt, wp_back, back_ok, ofD, wipeQ, backQ, maskQ, atsLen, List.map_cons, List.map_nil, List.cons_append, List.nil_append, List.append_nil, List.take_succ_cons, List.take_zero, Nat.sub_self, Nat.reduceSub, Nat.reduceLT, Nat.reduceLeDiff, Nat.reduceAdd, Nat.reduceEqDiff, List.replicate_zero, List.replicate_succ, List.getElem?_cons_zero, List.getElem?_cons_succ, List.length_cons, List.length_nil, List.set_cons_zero, List.set_cons_succ, Bool.not_true, Bool.not_false, Bool.false_eq_true, if_true, if_false, reduceIte, reduceCtorEq, Option.map_some, Option.getD_some, Option.getD_none, Option.bind_some, Option.some.injEq, Nat.zero_add, isiW, muM, Int.cast_ofNat_Int, Int.ofNat_zero, Int.natCast_one, Int.reduceEq, Int.reduceLT, Int.reduceAdd, Int.reduceSub, decide_true, decide_false, w_lt, w_gt, w_le, w_ge, w_lts, w_gts, w_les, w_ges, w_eq, w_ne, w_eqb, w_neb, w_eqs, w_nes, w_add, w_sub, w_isN, w_notN, i1, sub_tup i2 e2, sub_tup rfl e1, s0, Int.toNat_natCast, kcps_at e1]
          simp -implicitDefEqProofs only [i2, Int.toNat_natCast, kcps_at e2]
        simp -implicitDefEqProofs only [execsQ, execQ, evQ, evsQ, evoQ, evA, argOf, getAs, putAs, asgQ, asgsQ, bindQ, bind_ok, isB_ok, opt_ok, wp_bind, wp_ok, wp_isB, wp_opt, wp_back, back_ok, ofD, wipeQ, backQ, maskQ, atsLen, List.map_cons, List.map_nil, List.cons_append, List.nil_append, List.append_nil, List.take_succ_cons, List.take_zero, Nat.sub_self, Nat.reduceSub, Nat.reduceLT, Nat.reduceLeDiff, Nat.reduceAdd, Nat.reduceEqDiff, List.replicate_zero, List.replicate_succ, List.getElem?_cons_zero, List.getElem?_cons_succ, List.length_cons, List.length_nil, List.set_cons_zero, List.set_cons_succ, Bool.not_true, Bool.not_false, Bool.false_eq_true, if_true, if_false, reduceIte, reduceCtorEq, Option.map_some, Option.getD_some, Option.getD_none, Option.bind_some, Option.some.injEq, Nat.zero_add, isiW, muM, Int.cast_ofNat_Int, Int.ofNat_zero, Int.natCast_one, Int.reduceEq, Int.reduceLT, Int.reduceAdd, Int.reduceSub, decide_true, decide_false, e2, all_lst, and_true, Bool.true_and]
        congr 1
        unfold incB
        rw [List.all_map]
        congr 1
        funext j
        have i1 : (1 : Int) + j - 1 = (j : Int) := by omega
        have i2 : (1 : Int) + j = ((j + 1 : Nat) : Int) := by omega
        simp only [Function.comp, i1, Int.toNat_natCast]
        rw [i2, Int.toNat_natCast]
  | _ => simp -implicitDefEqProofs only [f_are_things, b_are_things, w_are_things_1, t_are_things_1, execsQ, execQ, evQ, evsQ, evoQ, evA, argOf, getAs, putAs, asgQ, asgsQ, bindQ, bind_ok, isB_ok, opt_ok, wp_bind, wp_ok, wp_isB, wp_opt, wp_back, back_ok, ofD, wipeQ, backQ, maskQ, atsLen, List.map_cons, List.map_nil, List.cons_append, List.nil_append, List.append_nil, List.take_succ_cons, List.take_zero, Nat.sub_self, Nat.reduceSub, Nat.reduceLT, Nat.reduceLeDiff, Nat.reduceAdd, Nat.reduceEqDiff, List.replicate_zero, List.replicate_succ, List.getElem?_cons_zero, List.getElem?_cons_succ, List.length_cons, List.length_nil, List.set_cons_zero, List.set_cons_succ, Bool.not_true, Bool.not_false, Bool.false_eq_true, if_true, if_false, reduceIte, reduceCtorEq, Option.map_some, Option.getD_some, Option.getD_none, Option.bind_some, Option.some.injEq, Nat.zero_add, isiW, muM, Int.cast_ofNat_Int, Int.ofNat_zero, Int.natCast_one, Int.reduceEq, Int.reduceLT, Int.reduceAdd, Int.reduceSub, decide_true, decide_false, thingsB, and_self]
/-! ### numbers, digits -/
def num : List Nat → Nat
  | [] => 0
  | c :: l => (c - 97) + 4 * num l
theorem num_snoc : ∀ (l : List Nat) (c : Nat), num (l ++ [c]) = num l + (c - 97) * 4 ^ l.length
  | [], c => by simp [num]
  | a :: l, c => by
    simp only [List.cons_append, num, num_snoc l c, List.length_cons, Nat.pow_succ]
    rw [Nat.mul_add, Nat.add_assoc]
    congr 2
    rw [Nat.mul_comm 4, Nat.mul_assoc]
theorem occ_all : (lettersL.all fun c => decide ((Builtin.Str.occurrences (Str.ofString "abcdefghijklmnopqrstuvwxyz") ⟨#[c]⟩ 0 (Str.ofString "abcdefghijklmnopqrstuvwxyz").length 1).head? = some (c - 97))) = true := by decide +kernel
theorem idx_ok {c : Nat} (h : c ∈ lettersL) : miW .index (.str (Str.ofString "abcdefghijklmnopqrstuvwxyz")) [wsign c] = some (.int ((c - 97 : Nat) : Int)) := by
  have q := of_decide_eq_true (List.all_eq_true.mp occ_all c h)
  simp only [miW, wsign]
  cases e : Builtin.Str.occurrences (Str.ofString "abcdefghijklmnopqrstuvwxyz") ⟨#[c]⟩ 0 (Str.ofString "abcdefghijklmnopqrstuvwxyz").length 1 with
  | nil => rw [e] at q; cases q
  | cons i r =>
    rw [e] at q
    simp only [List.head?_cons, Option.some.injEq] at q
    simp only [q]
theorem letters_val {c : Nat} (h : c ∈ lettersL) : c - 97 < 26 := by
  obtain ⟨i, hi, rfl⟩ := List.mem_map.mp h
  rw [List.mem_range] at hi
  omega
theorem cut5 {s : Str} : (cutS s none (some 5)).cps.toList = s.cps.toList.take 5 := by
  unfold cutS
  simp only [List.toList_toArray]
  have h0 : HT.sIx s.length 0 none = 0 := rfl
  have h5 : HT.sIx s.length s.length (some 5) = min 5 s.length := by
    show HT.sIx s.length s.length (some ((5 : Nat) : Int)) = _
    rw [HT.sIx_nat]
  rw [h0, h5, List.drop_zero, Nat.sub_zero]
  have hl : s.length = s.cps.toList.length := by simp [Str.length]
  rw [hl]
  by_cases h : 5 ≤ s.cps.toList.length
  · rw [Nat.min_eq_left h]
  · rw [Nat.min_eq_right (by omega), List.take_length, List.take_of_length_le (by omega)]
/-- the first five letters' number -/
def nOf (s : Str) : Nat := num (s.cps.toList.take 5)
/-- a word of small letters -/
def Word (s : Str) : Prop := (∀ c ∈ s.cps.toList, c ∈ lettersL) ∧ s.length ≤ 1000
theorem Word.le {s : Str} (h : Word s) : s.length ≤ sizeLine := by have := h.2; exact sz_small (by omega)
def digs (n : Nat) : List W := [.int ((n % 4 : Nat) : Int), .int ((n / 4 % 4 : Nat) : Int), .int ((n / 16 % 4 : Nat) : Int), .int ((n / 64 % 4 : Nat) : Int), .int ((n / 256 % 4 : Nat) : Int)]
theorem cut_le {s : Str} {lo hi : Option Int} : (cutS s lo hi).length ≤ s.length := by
  simp only [cutS, Str.length, List.size_toArray, List.length_take, List.length_drop]
  simp only [Array.length_toList]
  omega
theorem num_fold (l : List Nat) : l.reverse.foldl (fun n c => (c - 97) + 4 * n) 0 = num l := by
  rw [List.foldl_reverse]
  induction l with
  | nil => rfl
  | cons c l ih => rw [List.foldr_cons, ih]; rfl
variable {s : Str}
/-- a loop that folds a number -/
theorem for_fold {α β : Type} {g : α → W} {body : W → QEnv → QR QO} {P : QO → QEnv → Prop} (E : β → Option W → QEnv) (f : β → α → β) : ∀ (l : List α) (n : β) (y : Option W), (∀ c ∈ l, ∀ n y, WP (body (g c) (E n y)) fun o ρ' => o = .nx ∧ ρ' = E (f n c) (some (g c))) → (∀ y, P .nx (E (l.foldl f n) y)) → WP (forQ body (l.map g) (E n y)) P
  | [], n, y, _, h => by simp only [List.map_nil, forQ, wp_ok]; exact h y
  | c :: l, n, y, hb, h => by
    simp only [List.map_cons, forQ, wp_bind]
    refine (hb c (by simp) n y).mono fun o ρ' q => ?_
    obtain ⟨rfl, rfl⟩ := q
    exact for_fold E f l (f n c) _ (fun c hc n => hb c (by simp [hc]) n) h
theorem number_of_ok (h : has T "number_of" f_number_of) (hw : Word s) : callQ T F (k + 1) "number_of" [.str s] = .ok (.int ((nOf s % 1024 : Nat) : Int)) [none] := by
  refine call_eq (wp_call h ⟨rfl, by decide, rfl⟩ ?_)
  have hc : (cutS s none (some 5)).length ≤ sizeLine := Nat.le_trans cut_le hw.le
  simp -implicitDefEqProofs only [f_number_of, b_number_of, t_number_of_1, t_number_of_2, execsQ, execQ, evQ, evsQ, evoQ, evA, argOf, getAs, putAs, asgQ, asgsQ, bindQ, bind_ok, isB_ok, opt_ok, wp_bind, wp_ok, wp_isB, wp_opt, wp_back, back_ok, ofD, wipeQ, backQ, maskQ, atsLen, List.map_cons, List.map_nil, List.cons_append, List.nil_append, List.append_nil, List.take_succ_cons, List.take_zero, Nat.sub_self, Nat.reduceSub, Nat.reduceLT, Nat.reduceLeDiff, Nat.reduceAdd, Nat.reduceEqDiff, List.replicate_zero, List.replicate_succ, List.getElem?_cons_zero, List.getElem?_cons_succ, List.length_cons, List.length_nil, List.set_cons_zero, List.set_cons_succ, Bool.not_true, Bool.not_false, Bool.false_eq_true, if_true, if_false, reduceIte, reduceCtorEq, Option.map_some, Option.getD_some, Option.getD_none, Option.bind_some, Option.some.injEq, Nat.zero_add, isiW, muM, Int.cast_ofNat_Int, Int.ofNat_zero, Int.natCast_one, Int.reduceEq, Int.reduceLT, Int.reduceAdd, Int.reduceSub, decide_true, decide_false, slc_str hw.le, i_rev hc, cut5]
  rw [← List.map_reverse]
  refine for_fold (fun (n : Nat) y => [some (.str s), some (.int (n : Int)), y]) (fun n c => (c - 97) + 4 * n) _ 0 none (fun c hc n y => ?_) fun y => ?_
  · have hm : c ∈ lettersL := hw.1 c (List.mem_of_mem_take (List.mem_reverse.mp hc))
    have e : (n : Int) * 4 + ((c - 97 : Nat) : Int) = (((c - 97) + 4 * n : Nat) : Int) := by omega
    simp -implicitDefEqProofs only [execsQ, execQ, evQ, evsQ, evoQ, evA, argOf, getAs, putAs, asgQ, asgsQ, bindQ, bind_ok, isB_ok, opt_ok, wp_bind, wp_ok, wp_isB, wp_opt, wp_back, back_ok, ofD, wipeQ, backQ, maskQ, atsLen, List.map_cons, List.map_nil, List.cons_append, List.nil_append, List.append_nil, List.take_succ_cons, List.take_zero, Nat.sub_self, Nat.reduceSub, Nat.reduceLT, Nat.reduceLeDiff, Nat.reduceAdd, Nat.reduceEqDiff, List.replicate_zero, List.replicate_succ, List.getElem?_cons_zero, List.getElem?_cons_succ, List.length_cons, List.length_nil, List.set_cons_zero, List.set_cons_succ, Bool.not_true, Bool.not_false, Bool.false_eq_true, if_true, if_false, reduceIte, reduceCtorEq, Option.map_some, Option.getD_some, Option.getD_none, Option.bind_some, Option.some.injEq, Nat.zero_add, isiW, muM, Int.cast_ofNat_Int, Int.ofNat_zero, Int.natCast_one, Int.reduceEq, Int.reduceLT, Int.reduceAdd, Int.reduceSub, decide_true, decide_false, w_number_of_1, w_mul (j := 4) (by decide), idx_ok hm, w_lt, w_gt, w_le, w_ge, w_lts, w_gts, w_les, w_ges, w_eq, w_ne, w_eqb, w_neb, w_eqs, w_nes, w_add, w_sub, w_isN, w_notN, e, and_self]
  · rw [num_fold]
    have e : ((num (s.cps.toList.take 5) : Nat) : Int) % 1024 = ((nOf s % 1024 : Nat) : Int) := rfl
    simp -implicitDefEqProofs only [execsQ, execQ, evQ, evsQ, evoQ, evA, argOf, getAs, putAs, asgQ, asgsQ, bindQ, bind_ok, isB_ok, opt_ok, wp_bind, wp_ok, wp_isB, wp_opt, wp_back, back_ok, ofD, wipeQ, backQ, maskQ, atsLen, List.map_cons, List.map_nil, List.cons_append, List.nil_append, List.append_nil, List.take_succ_cons, List.take_zero, Nat.sub_self, Nat.reduceSub, Nat.reduceLT, Nat.reduceLeDiff, Nat.reduceAdd, Nat.reduceEqDiff, List.replicate_zero, List.replicate_succ, List.getElem?_cons_zero, List.getElem?_cons_succ, List.length_cons, List.length_nil, List.set_cons_zero, List.set_cons_succ, Bool.not_true, Bool.not_false, Bool.false_eq_true, if_true, if_false, reduceIte, reduceCtorEq, Option.map_some, Option.getD_some, Option.getD_none, Option.bind_some, Option.some.injEq, Nat.zero_add, isiW, muM, Int.cast_ofNat_Int, Int.ofNat_zero, Int.natCast_one, Int.reduceEq, Int.reduceLT, Int.reduceAdd, Int.reduceSub, decide_true, decide_false, w_mod (j := 1024) (by decide), e, and_self]
theorem digits_of_ok (L : LKeys T) (hw : Word s) : callQ T F (k + 2) "digits_of" [.str s] = .ok (.tup (digs (nOf s))) [none] := by
  refine call_eq (wp_call L.digits_of ⟨rfl, by decide, rfl⟩ ?_)
  have er : (List.range 5).map (fun (k : Nat) => W.int (k : Int)) = [.int 0, .int 1, .int 2, .int 3, .int 4] := rfl
  have hz : ∀ n : Nat, n ≤ 10 → n < sizeLine := fun n h => Nat.lt_of_le_of_lt h (by rw [sizeLine_eq]; omega)
  have ap : ∀ (ds : List W) (d : W), ds.length ≤ 10 → muW .append (.lst ds) [d] = some (.non, .lst (ds ++ [d])) := fun ds d h => if_pos (hz _ h)
  have m4 : ∀ n : Nat, ((n : Int) % 4) = ((n % 4 : Nat) : Int) := fun n => by omega
  have d4 : ∀ n : Nat, ((n : Int) / 4) = ((n / 4 : Nat) : Int) := fun n => by omega
  simp -implicitDefEqProofs only [f_digits_of, b_digits_of, t_digits_of_1, w_digits_of_1, t_digits_of_2, t_digits_of_3, t_digits_of_4, execsQ, execQ, evQ, evsQ, evoQ, evA, argOf, getAs, putAs, asgQ, asgsQ, bindQ, bind_ok, isB_ok, opt_ok, wp_bind, wp_ok, wp_isB, wp_opt, wp_back, back_ok, ofD, wipeQ, backQ, maskQ, atsLen, List.map_cons, List.map_nil, List.cons_append, List.nil_append, List.append_nil, List.take_succ_cons, List.take_zero, Nat.sub_self, Nat.reduceSub, Nat.reduceLT, Nat.reduceLeDiff, Nat.reduceAdd, Nat.reduceEqDiff, List.replicate_zero, List.replicate_succ, List.getElem?_cons_zero, List.getElem?_cons_succ, List.length_cons, List.length_nil, List.set_cons_zero, List.set_cons_succ, Bool.not_true, Bool.not_false, Bool.false_eq_true, if_true, if_false, reduceIte, reduceCtorEq, Option.map_some, Option.getD_some, Option.getD_none, Option.bind_some, Option.some.injEq, Nat.zero_add, isiW, muM, Int.cast_ofNat_Int, Int.ofNat_zero, Int.natCast_one, Int.reduceEq, Int.reduceLT, Int.reduceAdd, Int.reduceSub, decide_true, decide_false, L.number_of, f_number_of, number_of_ok L.number_of hw, if_pos (sz_small (Nat.zero_le _)), iter_rng1 (n := 5) (i := 5) rfl (by decide), er, forQ, w_mod (j := 4) (by decide), w_div (j := 4) (by decide) (by decide), ap, m4, d4, tuple_lst, and_true]
  have a1 : nOf s % 1024 % 4 = nOf s % 4 := by omega
  have a2 : nOf s % 1024 / 4 % 4 = nOf s / 4 % 4 := by omega
  have a3 : nOf s % 1024 / 4 / 4 % 4 = nOf s / 16 % 4 := by omega
  have a4 : nOf s % 1024 / 4 / 4 / 4 % 4 = nOf s / 64 % 4 := by omega
  have a5 : nOf s % 1024 / 4 / 4 / 4 / 4 % 4 = nOf s / 256 % 4 := by omega
  rw [a1, a2, a3, a4, a5]; rfl
end
end Pq
set_option Elab.async false
set_option linter.all false
set_option maxRecDepth 100000
set_option maxHeartbeats 1000000
/-! the law's own reading of keys; the feed -/
namespace Pq
open PySem PySem.Spec PyProof.Rows L2 Pv
section
variable {T : QTbl} {F k : Nat} {w : W} {s : Str}
theorem eq_nil {ws : List W} (h : ws.length ≤ 100) : True := trivial
theorem eqv_nil : ∀ ps : List PyData, PyData.eqv (.list ps) (.list []) = ps.isEmpty
  | [] => by simp [PyData.eqv, PyData.eqvAll]
  | p :: ps => by simp [PyData.eqv, PyData.eqvAll]
theorem mapM_pd {n : Nat} : ∀ {ws : List W}, (∀ w ∈ ws, ∃ p, pdW n w = some p) → ∃ ps, ws.mapM (pdW n) = some ps ∧ ps.length = ws.length
  | [], _ => ⟨[], rfl, rfl⟩
  | w :: ws, h => by
    obtain ⟨p, e⟩ := h w (by simp)
    obtain ⟨ps, e2, l⟩ := mapM_pd (ws := ws) (n := n) fun x hx => h x (by simp [hx])
    exact ⟨p :: ps, by rw [List.mapM_cons, e, e2]; rfl, by simp [l]⟩
/-- a list against [] -/
theorem w_eq_nil {ws : List W} (h : ∀ w ∈ ws, ∃ p, pdW 59 w = some p) : cmpopW .Eq (.lst ws) (.lst []) = some ws.isEmpty := by
  obtain ⟨ps, e, l⟩ := mapM_pd h
  have e0 : pdW 60 (.lst []) = some (.list []) := rfl
  have e1 : pdW 60 (.lst ws) = some (.list ps) := by simp only [pdW, e, Option.map_some]
  simp only [cmpopW, eqW, e0, e1, eqv_nil]
  cases ws <;> cases ps <;> first | rfl | (simp at l)
theorem w_ne_nil {ws : List W} (h : ∀ w ∈ ws, ∃ p, pdW 59 w = some p) : cmpopW .NotEq (.lst ws) (.lst []) = some !ws.isEmpty := by
  have := w_eq_nil h
  simp only [cmpopW] at this ⊢
  rw [this]; rfl
theorem filter_empty {α : Type} {xs : List α} {p : α → Bool} : (xs.filter p).isEmpty = xs.all fun x => !p x := by
  induction xs with
  | nil => rfl
  | cons x xs ih => cases h : p x <;> simp [h, ih]
theorem pd_sign {c : Nat} {n : Nat} : pdW (n + 1) (wsign c) = some (.str ⟨#[c]⟩) := rfl
structure LRead1 (T : QTbl) : Prop where
  is_key : has T "_law_is_key" f_law_is_key
  is_value : has T "_law_is_value" f_law_is_value
  are_things : has T "_law_are_things" f_law_are_things
  is_told : has T "_law_is_told" f_law_is_told
theorem law_is_key_ok (h : has T "_law_is_key" f_law_is_key) (hf : fitW w = true) : callQ T F (k + 1) "_law_is_key" [w] = .ok (.bl (keyB w)) [none] := by
  refine call_eq (wp_call h ⟨rfl, by decide, rfl⟩ ?_)
  cases w with
  | str s =>
    simp only [fitW, decide_eq_true_eq] at hf
    have hs : s.length ≤ sizeLine := sz_small (by omega)
    have e : evQ (callQ T F k) T c_law_is_key_1 [some (.str s), none, none] = .ok (.lst (((s.cps.toList.map wsign).filter fun x => !(match x with | .str t => t.cps.toList.all fun c => decide (c ∈ lettersL) | _ => false)).map id)) [some (.str s), none, none] := by
      refine ev_filter _ _ rfl i_str (by simpa [Str.length] using hs) (by simp [tgSl]) fun x hx => ?_
      obtain ⟨c, hc, rfl⟩ := List.mem_map.mp hx
      refine ⟨_, rfl, ?_, fun _ => rfl⟩
      simp -implicitDefEqProofs only [execsQ, execQ, evQ, evsQ, evoQ, evA, argOf, getAs, putAs, asgQ, asgsQ, bindQ, bind_ok, isB_ok, opt_ok, wp_bind, wp_ok, wp_isB, wp_opt, wp_back, back_ok, ofD, wipeQ, backQ, maskQ, atsLen, List.map_cons, List.map_nil, List.cons_append, List.nil_append, List.append_nil, List.take_succ_cons, List.take_zero, Nat.sub_self, Nat.reduceSub, Nat.reduceLT, Nat.reduceLeDiff, Nat.reduceAdd, Nat.reduceEqDiff, List.replicate_zero, List.replicate_succ, List.getElem?_cons_zero, List.getElem?_cons_succ, List.length_cons, List.length_nil, List.set_cons_zero, List.set_cons_succ, Bool.not_true, Bool.not_false, Bool.false_eq_true, if_true, if_false, reduceIte, reduceCtorEq, Option.map_some, Option.getD_some, Option.getD_none, Option.bind_some, Option.some.injEq, Nat.zero_add, isiW, muM, Int.cast_ofNat_Int, Int.ofNat_zero, Int.natCast_one, Int.reduceEq, Int.reduceLT, Int.reduceAdd, Int.reduceSub, decide_true, decide_false, notin_sign, letters_cps]
      simp [wsign]
    simp -implicitDefEqProofs only [f_law_is_key, b_law_is_key, w_law_is_key_1, t_law_is_key_1, execsQ, execQ, evQ, evsQ, evoQ, evA, argOf, getAs, putAs, asgQ, asgsQ, bindQ, bind_ok, isB_ok, opt_ok, wp_bind, wp_ok, wp_isB, wp_opt, wp_back, back_ok, ofD, wipeQ, backQ, maskQ, atsLen, List.map_cons, List.map_nil, List.cons_append, List.nil_append, List.append_nil, List.take_succ_cons, List.take_zero, Nat.sub_self, Nat.reduceSub, Nat.reduceLT, Nat.reduceLeDiff, Nat.reduceAdd, Nat.reduceEqDiff, List.replicate_zero, List.replicate_succ, List.getElem?_cons_zero, List.getElem?_cons_succ, List.length_cons, List.length_nil, List.set_cons_zero, List.set_cons_succ, Bool.not_true, Bool.not_false, Bool.false_eq_true, if_true, if_false, reduceIte, reduceCtorEq, Option.map_some, Option.getD_some, Option.getD_none, Option.bind_some, Option.some.injEq, Nat.zero_add, isiW, muM, Int.cast_ofNat_Int, Int.ofNat_zero, Int.natCast_one, Int.reduceEq, Int.reduceLT, Int.reduceAdd, Int.reduceSub, decide_true, decide_false, w_lt, w_gt, w_le, w_ge, w_lts, w_gts, w_les, w_ges, w_eq, w_ne, w_eqb, w_neb, w_eqs, w_nes, w_add, w_sub, w_isN, w_notN, len_str hs, keyB]
    by_cases h1 : (s.length : Int) < 1
    · have h2 : ¬ (1 ≤ s.length ∧ s.length ≤ 8) := by omega
      simp -implicitDefEqProofs only [decide_eq_true h1, execsQ, execQ, evQ, evsQ, evoQ, evA, argOf, getAs, putAs, asgQ, asgsQ, bindQ, bind_ok, isB_ok, opt_ok, wp_bind, wp_ok, wp_isB, wp_opt, wp_back, back_ok, ofD, wipeQ, backQ, maskQ, atsLen, List.map_cons, List.map_nil, List.cons_append, List.nil_append, List.append_nil, List.take_succ_cons, List.take_zero, Nat.sub_self, Nat.reduceSub, Nat.reduceLT, Nat.reduceLeDiff, Nat.reduceAdd, Nat.reduceEqDiff, List.replicate_zero, List.replicate_succ, List.getElem?_cons_zero, List.getElem?_cons_succ, List.length_cons, List.length_nil, List.set_cons_zero, List.set_cons_succ, Bool.not_true, Bool.not_false, Bool.false_eq_true, if_true, if_false, reduceIte, reduceCtorEq, Option.map_some, Option.getD_some, Option.getD_none, Option.bind_some, Option.some.injEq, Nat.zero_add, isiW, muM, Int.cast_ofNat_Int, Int.ofNat_zero, Int.natCast_one, Int.reduceEq, Int.reduceLT, Int.reduceAdd, Int.reduceSub, decide_true, decide_false, decide_eq_false h2, Bool.false_and, and_self]
    · by_cases h3 : (8 : Int) < (s.length : Int)
      · have h2 : ¬ (1 ≤ s.length ∧ s.length ≤ 8) := by omega
        simp -implicitDefEqProofs only [decide_eq_false h1, decide_eq_true h3, execsQ, execQ, evQ, evsQ, evoQ, evA, argOf, getAs, putAs, asgQ, asgsQ, bindQ, bind_ok, isB_ok, opt_ok, wp_bind, wp_ok, wp_isB, wp_opt, wp_back, back_ok, ofD, wipeQ, backQ, maskQ, atsLen, List.map_cons, List.map_nil, List.cons_append, List.nil_append, List.append_nil, List.take_succ_cons, List.take_zero, Nat.sub_self, Nat.reduceSub, Nat.reduceLT, Nat.reduceLeDiff, Nat.reduceAdd, Nat.reduceEqDiff, List.replicate_zero, List.replicate_succ, List.getElem?_cons_zero, List.getElem?_cons_succ, List.length_cons, List.length_nil, List.set_cons_zero, List.set_cons_succ, Bool.not_true, Bool.not_false, Bool.false_eq_true, if_true, if_false, reduceIte, reduceCtorEq, Option.map_some, Option.getD_some, Option.getD_none, Option.bind_some, Option.some.injEq, Nat.zero_add, isiW, muM, Int.cast_ofNat_Int, Int.ofNat_zero, Int.natCast_one, Int.reduceEq, Int.reduceLT, Int.reduceAdd, Int.reduceSub, decide_true, decide_false, w_lt, w_gt, w_le, w_ge, w_lts, w_gts, w_les, w_ges, w_eq, w_ne, w_eqb, w_neb, w_eqs, w_nes, w_add, w_sub, w_isN, w_notN, decide_eq_false h2, Bool.false_and, and_self]
      · have h2 : 1 ≤ s.length ∧ s.length ≤ 8 := by omega
        have hm : ∀ w ∈ ((s.cps.toList.map wsign).filter fun x => !(match x with | .str t => t.cps.toList.all fun c => decide (c ∈ lettersL) | _ => false)).map id, ∃ p, pdW 59 w = some p := fun w hw => by
          rw [List.map_id] at hw
          obtain ⟨c, hc, rfl⟩ := List.mem_map.mp (List.mem_filter.mp hw).1
          exact ⟨_, pd_sign⟩
        simp -implicitDefEqProofs only [decide_eq_false h1, decide_eq_false h3, decide_eq_true h2, e, execsQ, execQ, evQ, evsQ, evoQ, evA, argOf, getAs, putAs, asgQ, asgsQ, bindQ, bind_ok, isB_ok, opt_ok, wp_bind, wp_ok, wp_isB, wp_opt, wp_back, back_ok, ofD, wipeQ, backQ, maskQ, atsLen, List.map_cons, List.map_nil, List.cons_append, List.nil_append, List.append_nil, List.take_succ_cons, List.take_zero, Nat.sub_self, Nat.reduceSub, Nat.reduceLT, Nat.reduceLeDiff, Nat.reduceAdd, Nat.reduceEqDiff, List.replicate_zero, List.replicate_succ, List.getElem?_cons_zero, List.getElem?_cons_succ, List.length_cons, List.length_nil, List.set_cons_zero, List.set_cons_succ, Bool.not_true, Bool.not_false, Bool.false_eq_true, if_true, if_false, reduceIte, reduceCtorEq, Option.map_some, Option.getD_some, Option.getD_none, Option.bind_some, Option.some.injEq, Nat.zero_add, isiW, muM, Int.cast_ofNat_Int, Int.ofNat_zero, Int.natCast_one, Int.reduceEq, Int.reduceLT, Int.reduceAdd, Int.reduceSub, decide_true, decide_false, w_lt, w_gt, w_le, w_ge, w_lts, w_gts, w_les, w_ges, w_eq, w_ne, w_eqb, w_neb, w_eqs, w_nes, w_add, w_sub, w_isN, w_notN, if_pos (sz_small (Nat.zero_le _)), w_eq_nil hm, Bool.true_and, and_true]
        rw [List.map_id, filter_empty, all_signs (p := fun c => decide (c ∈ lettersL)) (fun c => by simp [wsign])]
  | _ => simp -implicitDefEqProofs only [f_law_is_key, b_law_is_key, w_law_is_key_1, t_law_is_key_1, execsQ, execQ, evQ, evsQ, evoQ, evA, argOf, getAs, putAs, asgQ, asgsQ, bindQ, bind_ok, isB_ok, opt_ok, wp_bind, wp_ok, wp_isB, wp_opt, wp_back, back_ok, ofD, wipeQ, backQ, maskQ, atsLen, List.map_cons, List.map_nil, List.cons_append, List.nil_append, List.append_nil, List.take_succ_cons, List.take_zero, Nat.sub_self, Nat.reduceSub, Nat.reduceLT, Nat.reduceLeDiff, Nat.reduceAdd, Nat.reduceEqDiff, List.replicate_zero, List.replicate_succ, List.getElem?_cons_zero, List.getElem?_cons_succ, List.length_cons, List.length_nil, List.set_cons_zero, List.set_cons_succ, Bool.not_true, Bool.not_false, Bool.false_eq_true, if_true, if_false, reduceIte, reduceCtorEq, Option.map_some, Option.getD_some, Option.getD_none, Option.bind_some, Option.some.injEq, Nat.zero_add, isiW, muM, Int.cast_ofNat_Int, Int.ofNat_zero, Int.natCast_one, Int.reduceEq, Int.reduceLT, Int.reduceAdd, Int.reduceSub, decide_true, decide_false, keyB, and_self]
theorem pow_20 : binopW .Pow (.int 10) (.int 20) = some (.int 100000000000000000000) := by
  simp only [binopW]
  rw [if_pos (by decide)]
  rfl
theorem pow_18 : binopW .Pow (.int 10) (.int 18) = some (.int 1000000000000000000) := by
  simp only [binopW]
  rw [if_pos (by decide)]
  rfl
theorem law_is_value_ok (h : has T "_law_is_value" f_law_is_value) : callQ T F (k + 1) "_law_is_value" [w] = .ok (.bl (valueB w)) [none] := by
  refine call_eq (wp_call h ⟨rfl, by decide, rfl⟩ ?_)
  cases w with
  | int i =>
    simp -implicitDefEqProofs only [f_law_is_value, b_law_is_value, execsQ, execQ, evQ, evsQ, evoQ, evA, argOf, getAs, putAs, asgQ, asgsQ, bindQ, bind_ok, isB_ok, opt_ok, wp_bind, wp_ok, wp_isB, wp_opt, wp_back, back_ok, ofD, wipeQ, backQ, maskQ, atsLen, List.map_cons, List.map_nil, List.cons_append, List.nil_append, List.append_nil, List.take_succ_cons, List.take_zero, Nat.sub_self, Nat.reduceSub, Nat.reduceLT, Nat.reduceLeDiff, Nat.reduceAdd, Nat.reduceEqDiff, List.replicate_zero, List.replicate_succ, List.getElem?_cons_zero, List.getElem?_cons_succ, List.length_cons, List.length_nil, List.set_cons_zero, List.set_cons_succ, Bool.not_true, Bool.not_false, Bool.false_eq_true, if_true, if_false, reduceIte, reduceCtorEq, Option.map_some, Option.getD_some, Option.getD_none, Option.bind_some, Option.some.injEq, Nat.zero_add, isiW, muM, Int.cast_ofNat_Int, Int.ofNat_zero, Int.natCast_one, Int.reduceEq, Int.reduceLT, Int.reduceAdd, Int.reduceSub, decide_true, decide_false, pow_20, w_lt, w_gt, w_le, w_ge, w_lts, w_gts, w_les, w_ges, w_eq, w_ne, w_eqb, w_neb, w_eqs, w_nes, w_add, w_sub, w_isN, w_notN, valueB]
    by_cases h1 : (-100000000000000000000 : Int) < i
    · simp -implicitDefEqProofs only [decide_eq_true h1, execsQ, execQ, evQ, evsQ, evoQ, evA, argOf, getAs, putAs, asgQ, asgsQ, bindQ, bind_ok, isB_ok, opt_ok, wp_bind, wp_ok, wp_isB, wp_opt, wp_back, back_ok, ofD, wipeQ, backQ, maskQ, atsLen, List.map_cons, List.map_nil, List.cons_append, List.nil_append, List.append_nil, List.take_succ_cons, List.take_zero, Nat.sub_self, Nat.reduceSub, Nat.reduceLT, Nat.reduceLeDiff, Nat.reduceAdd, Nat.reduceEqDiff, List.replicate_zero, List.replicate_succ, List.getElem?_cons_zero, List.getElem?_cons_succ, List.length_cons, List.length_nil, List.set_cons_zero, List.set_cons_succ, Bool.not_true, Bool.not_false, Bool.false_eq_true, if_true, if_false, reduceIte, reduceCtorEq, Option.map_some, Option.getD_some, Option.getD_none, Option.bind_some, Option.some.injEq, Nat.zero_add, isiW, muM, Int.cast_ofNat_Int, Int.ofNat_zero, Int.natCast_one, Int.reduceEq, Int.reduceLT, Int.reduceAdd, Int.reduceSub, decide_true, decide_false, h1, true_and, and_self]
    · simp -implicitDefEqProofs only [decide_eq_false h1, execsQ, execQ, evQ, evsQ, evoQ, evA, argOf, getAs, putAs, asgQ, asgsQ, bindQ, bind_ok, isB_ok, opt_ok, wp_bind, wp_ok, wp_isB, wp_opt, wp_back, back_ok, ofD, wipeQ, backQ, maskQ, atsLen, List.map_cons, List.map_nil, List.cons_append, List.nil_append, List.append_nil, List.take_succ_cons, List.take_zero, Nat.sub_self, Nat.reduceSub, Nat.reduceLT, Nat.reduceLeDiff, Nat.reduceAdd, Nat.reduceEqDiff, List.replicate_zero, List.replicate_succ, List.getElem?_cons_zero, List.getElem?_cons_succ, List.length_cons, List.length_nil, List.set_cons_zero, List.set_cons_succ, Bool.not_true, Bool.not_false, Bool.false_eq_true, if_true, if_false, reduceIte, reduceCtorEq, Option.map_some, Option.getD_some, Option.getD_none, Option.bind_some, Option.some.injEq, Nat.zero_add, isiW, muM, Int.cast_ofNat_Int, Int.ofNat_zero, Int.natCast_one, Int.reduceEq, Int.reduceLT, Int.reduceAdd, Int.reduceSub, decide_true, decide_false, h1, false_and, and_self]
  | _ => simp -implicitDefEqProofs only [f_law_is_value, b_law_is_value, execsQ, execQ, evQ, evsQ, evoQ, evA, argOf, getAs, putAs, asgQ, asgsQ, bindQ, bind_ok, isB_ok, opt_ok, wp_bind, wp_ok, wp_isB, wp_opt, wp_back, back_ok, ofD, wipeQ, backQ, maskQ, atsLen, List.map_cons, List.map_nil, List.cons_append, List.nil_append, List.append_nil, List.take_succ_cons, List.take_zero, Nat.sub_self, Nat.reduceSub, Nat.reduceLT, Nat.reduceLeDiff, Nat.reduceAdd, Nat.reduceEqDiff, List.replicate_zero, List.replicate_succ, List.getElem?_cons_zero, List.getElem?_cons_succ, List.length_cons, List.length_nil, List.set_cons_zero, List.set_cons_succ, Bool.not_true, Bool.not_false, Bool.false_eq_true, if_true, if_false, reduceIte, reduceCtorEq, Option.map_some, Option.getD_some, Option.getD_none, Option.bind_some, Option.some.injEq, Nat.zero_add, isiW, muM, Int.cast_ofNat_Int, Int.ofNat_zero, Int.natCast_one, Int.reduceEq, Int.reduceLT, Int.reduceAdd, Int.reduceSub, decide_true, decide_false, valueB, and_self]
theorem law_is_told_ok (h : has T "_law_is_told" f_law_is_told) {b c : Bool} : callQ T F (k + 1) "_law_is_told" [.bl b, .bl c] = .ok (.bl (decide (b = c))) [none, none] := by
  refine call_eq (wp_call h ⟨rfl, by decide, rfl⟩ ?_)
  simp -implicitDefEqProofs only [f_law_is_told, b_law_is_told, execsQ, execQ, evQ, evsQ, evoQ, evA, argOf, getAs, putAs, asgQ, asgsQ, bindQ, bind_ok, isB_ok, opt_ok, wp_bind, wp_ok, wp_isB, wp_opt, wp_back, back_ok, ofD, wipeQ, backQ, maskQ, atsLen, List.map_cons, List.map_nil, List.cons_append, List.nil_append, List.append_nil, List.take_succ_cons, List.take_zero, Nat.sub_self, Nat.reduceSub, Nat.reduceLT, Nat.reduceLeDiff, Nat.reduceAdd, Nat.reduceEqDiff, List.replicate_zero, List.replicate_succ, List.getElem?_cons_zero, List.getElem?_cons_succ, List.length_cons, List.length_nil, List.set_cons_zero, List.set_cons_succ, Bool.not_true, Bool.not_false, Bool.false_eq_true, if_true, if_false, reduceIte, reduceCtorEq, Option.map_some, Option.getD_some, Option.getD_none, Option.bind_some, Option.some.injEq, Nat.zero_add, isiW, muM, Int.cast_ofNat_Int, Int.ofNat_zero, Int.natCast_one, Int.reduceEq, Int.reduceLT, Int.reduceAdd, Int.reduceSub, decide_true, decide_false, w_lt, w_gt, w_le, w_ge, w_lts, w_gts, w_les, w_ges, w_eq, w_ne, w_eqb, w_neb, w_eqs, w_nes, w_add, w_sub, w_isN, w_notN, and_self]
/-- a loop that returns at the first item that isn't so -/
theorem for_all {α : Type} {g : α → W} {body : W → QEnv → QR QO} {P : QO → QEnv → Prop} (E : Option W → QEnv) (p : α → Bool) (r : W) : ∀ (l : List α) (y : Option W), (∀ c ∈ l, ∀ y, WP (body (g c) (E y)) fun o ρ' => ρ' = E (some (g c)) ∧ o = if p c = true then .nx else .ret r) → ((l.all p = true) → ∀ y, P .nx (E y)) → ((l.all p = false) → ∀ y, P (.ret r) (E y)) → WP (forQ body (l.map g) (E y)) P
  | [], y, _, h, _ => by simp only [List.map_nil, forQ, wp_ok]; exact h rfl y
  | c :: l, y, hb, h1, h2 => by
    simp only [List.map_cons, forQ, wp_bind]
    refine (hb c (by simp) y).mono fun o ρ' q => ?_
    obtain ⟨rfl, rfl⟩ := q
    cases hp : p c with
    | true =>
      simp only [if_true]
      exact for_all E p r l _ (fun c hc n => hb c (by simp [hc]) n) (fun z => h1 (by simp [hp, z])) (fun z => h2 (by simp [hp, z]))
    | false =>
      simp only [Bool.false_eq_true, if_false, wp_ok]
      exact h2 (by simp [hp]) _
theorem sub_two0 {a b : W} : subW (.tup [a, b]) (.int 0) = some a := rfl
theorem sub_two1 {a b : W} : subW (.tup [a, b]) (.int 1) = some b := rfl
theorem thingB_no {ws : List W} (h : ¬ (ws.length : Int) = 2) : thingB (.tup ws) = false := by
  unfold thingB
  split
  · rename_i e; cases e; exact absurd rfl h
  · rfl
theorem law_are_things_ok (R : LRead1 T) (hf : fitW w = true) : callQ T F (k + 2) "_law_are_things" [w] = .ok (.bl (thingsB w)) [none] := by
  refine call_eq (wp_call R.are_things ⟨rfl, by decide, rfl⟩ ?_)
  cases w with
  | tup ws =>
    simp only [fitW, Bool.and_eq_true, decide_eq_true_eq, fitWs_iff] at hf
    have hl : ws.length ≤ sizeLine := sz_small (by omega)
    simp -implicitDefEqProofs only [f_law_are_things, b_law_are_things, t_law_are_things_1, t_law_are_things_2, t_law_are_things_3, w_law_are_things_1, execsQ, execQ, evQ, evsQ, evoQ, evA, argOf, getAs, putAs, asgQ, asgsQ, bindQ, bind_ok, isB_ok, opt_ok, wp_bind, wp_ok, wp_isB, wp_opt, wp_back, back_ok, ofD, wipeQ, backQ, maskQ, atsLen, List.map_cons, List.map_nil, List.cons_append, List.nil_append, List.append_nil, List.take_succ_cons, List.take_zero, Nat.sub_self, Nat.reduceSub, Nat.reduceLT, Nat.reduceLeDiff, Nat.reduceAdd, Nat.reduceEqDiff, List.replicate_zero, List.replicate_succ, List.getElem?_cons_zero, List.getElem?_cons_succ, List.length_cons, List.length_nil, List.set_cons_zero, List.set_cons_succ, Bool.not_true, Bool.not_false, Bool.false_eq_true, if_true, if_false, reduceIte, reduceCtorEq, Option.map_some, Option.getD_some, Option.getD_none, Option.bind_some, Option.some.injEq, Nat.zero_add, isiW, muM, Int.cast_ofNat_Int, Int.ofNat_zero, Int.natCast_one, Int.reduceEq, Int.reduceLT, Int.reduceAdd, Int.reduceSub, decide_true, decide_false, len_tup, w_lt, w_gt, w_le, w_ge, w_lts, w_gts, w_les, w_ges, w_eq, w_ne, w_eqb, w_neb, w_eqs, w_nes, w_add, w_sub, w_isN, w_notN]
    by_cases h2 : (200 : Int) < ws.length
    · have h3 : ¬ ws.length ≤ 200 := by omega
      simp -implicitDefEqProofs only [decide_eq_true h2, execsQ, execQ, evQ, evsQ, evoQ, evA, argOf, getAs, putAs, asgQ, asgsQ, bindQ, bind_ok, isB_ok, opt_ok, wp_bind, wp_ok, wp_isB, wp_opt, wp_back, back_ok, ofD, wipeQ, backQ, maskQ, atsLen, List.map_cons, List.map_nil, List.cons_append, List.nil_append, List.append_nil, List.take_succ_cons, List.take_zero, Nat.sub_self, Nat.reduceSub, Nat.reduceLT, Nat.reduceLeDiff, Nat.reduceAdd, Nat.reduceEqDiff, List.replicate_zero, List.replicate_succ, List.getElem?_cons_zero, List.getElem?_cons_succ, List.length_cons, List.length_nil, List.set_cons_zero, List.set_cons_succ, Bool.not_true, Bool.not_false, Bool.false_eq_true, if_true, if_false, reduceIte, reduceCtorEq, Option.map_some, Option.getD_some, Option.getD_none, Option.bind_some, Option.some.injEq, Nat.zero_add, isiW, muM, Int.cast_ofNat_Int, Int.ofNat_zero, Int.natCast_one, Int.reduceEq, Int.reduceLT, Int.reduceAdd, Int.reduceSub, decide_true, decide_false, thingsB, decide_eq_false h3, Bool.false_and, and_self]
    · have h3 : ws.length ≤ 200 := by omega
      simp -implicitDefEqProofs only [decide_eq_false h2, execsQ, execQ, evQ, evsQ, evoQ, evA, argOf, getAs, putAs, asgQ, asgsQ, bindQ, bind_ok, isB_ok, opt_ok, wp_bind, wp_ok, wp_isB, wp_opt, wp_back, back_ok, ofD, wipeQ, backQ, maskQ, atsLen, List.map_cons, List.map_nil, List.cons_append, List.nil_append, List.append_nil, List.take_succ_cons, List.take_zero, Nat.sub_self, Nat.reduceSub, Nat.reduceLT, Nat.reduceLeDiff, Nat.reduceAdd, Nat.reduceEqDiff, List.replicate_zero, List.replicate_succ, List.getElem?_cons_zero, List.getElem?_cons_succ, List.length_cons, List.length_nil, List.set_cons_zero, List.set_cons_succ, Bool.not_true, Bool.not_false, Bool.false_eq_true, if_true, if_false, reduceIte, reduceCtorEq, Option.map_some, Option.getD_some, Option.getD_none, Option.bind_some, Option.some.injEq, Nat.zero_add, isiW, muM, Int.cast_ofNat_Int, Int.ofNat_zero, Int.natCast_one, Int.reduceEq, Int.reduceLT, Int.reduceAdd, Int.reduceSub, decide_true, decide_false, thingsB, decide_eq_true h3, Bool.true_and, i_tup]
      rw [← List.map_id ws]
      refine for_all (fun y => [some (.tup (ws.map id)), y, none, none]) thingB (.bl false) ws none (fun x hx y => ?_) (fun ha y => ?_) (fun ha y => ?_)
      · have fx := hf.2 x hx
        cases x with
        | tup xs =>
          simp -implicitDefEqProofs only [w_law_are_things_4, w_law_are_things_2, w_law_are_things_3, t_law_are_things_1, execsQ, execQ, evQ, evsQ, evoQ, evA, argOf, getAs, putAs, asgQ, asgsQ, bindQ, bind_ok, isB_ok, opt_ok, wp_bind, wp_ok, wp_isB, wp_opt, wp_back, back_ok, ofD, wipeQ, backQ, maskQ, atsLen, List.map_cons, List.map_nil, List.cons_append, List.nil_append, List.append_nil, List.take_succ_cons, List.take_zero, Nat.sub_self, Nat.reduceSub, Nat.reduceLT, Nat.reduceLeDiff, Nat.reduceAdd, Nat.reduceEqDiff, List.replicate_zero, List.replicate_succ, List.getElem?_cons_zero, List.getElem?_cons_succ, List.length_cons, List.length_nil, List.set_cons_zero, List.set_cons_succ, Bool.not_true, Bool.not_false, Bool.false_eq_true, if_true, if_false, reduceIte, reduceCtorEq, Option.map_some, Option.getD_some, Option.getD_none, Option.bind_some, Option.some.injEq, Nat.zero_add, isiW, muM, Int.cast_ofNat_Int, Int.ofNat_zero, Int.natCast_one, Int.reduceEq, Int.reduceLT, Int.reduceAdd, Int.reduceSub, decide_true, decide_false, len_tup, w_lt, w_gt, w_le, w_ge, w_lts, w_gts, w_les, w_ges, w_eq, w_ne, w_eqb, w_neb, w_eqs, w_nes, w_add, w_sub, w_isN, w_notN, id]
          by_cases h2 : (xs.length : Int) = 2
          · match xs, h2 with
            | [a, b], _ =>
              obtain ⟨fa, fb⟩ := fit_two fx
              simp -implicitDefEqProofs only [execsQ, execQ, evQ, evsQ, evoQ, evA, argOf, getAs, putAs, asgQ, asgsQ, bindQ, bind_ok, isB_ok, opt_ok, wp_bind, wp_ok, wp_isB, wp_opt, wp_back, back_ok, ofD, wipeQ, backQ, maskQ, atsLen, List.map_cons, List.map_nil, List.cons_append, List.nil_append, List.append_nil, List.take_succ_cons, List.take_zero, Nat.sub_self, Nat.reduceSub, Nat.reduceLT, Nat.reduceLeDiff, Nat.reduceAdd, Nat.reduceEqDiff, List.replicate_zero, List.replicate_succ, List.getElem?_cons_zero, List.getElem?_cons_succ, List.length_cons, List.length_nil, List.set_cons_zero, List.set_cons_succ, Bool.not_true, Bool.not_false, Bool.false_eq_true, if_true, if_false, reduceIte, reduceCtorEq, Option.map_some, Option.getD_some, Option.getD_none, Option.bind_some, Option.some.injEq, Nat.zero_add, isiW, muM, Int.cast_ofNat_Int, Int.ofNat_zero, Int.natCast_one, Int.reduceEq, Int.reduceLT, Int.reduceAdd, Int.reduceSub, decide_true, decide_false, R.is_key, f_law_is_key, R.is_value, f_law_is_value, sub_two0, sub_two1, law_is_key_ok R.is_key fa, law_is_value_ok R.is_value, thingB]
              rcases Bool.eq_false_or_eq_true (keyB a) with hk | hk <;> rcases Bool.eq_false_or_eq_true (valueB b) with hv | hv <;> simp -implicitDefEqProofs only [hk, hv, execsQ, execQ, evQ, evsQ, evoQ, evA, argOf, getAs, putAs, asgQ, asgsQ, bindQ, bind_ok, isB_ok, opt_ok, wp_bind, wp_ok, wp_isB, wp_opt, wp_back, back_ok, ofD, wipeQ, backQ, maskQ, atsLen, List.map_cons, List.map_nil, List.cons_append, List.nil_append, List.append_nil, List.take_succ_cons, List.take_zero, Nat.sub_self, Nat.reduceSub, Nat.reduceLT, Nat.reduceLeDiff, Nat.reduceAdd, Nat.reduceEqDiff, List.replicate_zero, List.replicate_succ, List.getElem?_cons_zero, List.getElem?_cons_succ, List.length_cons, List.length_nil, List.set_cons_zero, List.set_cons_succ, Bool.not_true, Bool.not_false, Bool.false_eq_true, if_true, if_false, reduceIte, reduceCtorEq, Option.map_some, Option.getD_some, Option.getD_none, Option.bind_some, Option.some.injEq, Nat.zero_add, isiW, muM, Int.cast_ofNat_Int, Int.ofNat_zero, Int.natCast_one, Int.reduceEq, Int.reduceLT, Int.reduceAdd, Int.reduceSub, decide_true, decide_false, R.is_key, f_law_is_key, R.is_value, f_law_is_value, sub_two0, sub_two1, law_is_key_ok R.is_key fa, law_is_value_ok R.is_value, Bool.and_self, Bool.and_false, Bool.false_and, and_self]
          · simp -implicitDefEqProofs only [decide_eq_false h2, execsQ, execQ, evQ, evsQ, evoQ, evA, argOf, getAs, putAs, asgQ, asgsQ, bindQ, bind_ok, isB_ok, opt_ok, wp_bind, wp_ok, wp_isB, wp_opt, wp_back, back_ok, ofD, wipeQ, backQ, maskQ, atsLen, List.map_cons, List.map_nil, List.cons_append, List.nil_append, List.append_nil, List.take_succ_cons, List.take_zero, Nat.sub_self, Nat.reduceSub, Nat.reduceLT, Nat.reduceLeDiff, Nat.reduceAdd, Nat.reduceEqDiff, List.replicate_zero, List.replicate_succ, List.getElem?_cons_zero, List.getElem?_cons_succ, List.length_cons, List.length_nil, List.set_cons_zero, List.set_cons_succ, Bool.not_true, Bool.not_false, Bool.false_eq_true, if_true, if_false, reduceIte, reduceCtorEq, Option.map_some, Option.getD_some, Option.getD_none, Option.bind_some, Option.some.injEq, Nat.zero_add, isiW, muM, Int.cast_ofNat_Int, Int.ofNat_zero, Int.natCast_one, Int.reduceEq, Int.reduceLT, Int.reduceAdd, Int.reduceSub, decide_true, decide_false, thingB_no h2, and_self]
        | _ => simp -implicitDefEqProofs only [w_law_are_things_4, w_law_are_things_2, w_law_are_things_3, t_law_are_things_1, execsQ, execQ, evQ, evsQ, evoQ, evA, argOf, getAs, putAs, asgQ, asgsQ, bindQ, bind_ok, isB_ok, opt_ok, wp_bind, wp_ok, wp_isB, wp_opt, wp_back, back_ok, ofD, wipeQ, backQ, maskQ, atsLen, List.map_cons, List.map_nil, List.cons_append, List.nil_append, List.append_nil, List.take_succ_cons, List.take_zero, Nat.sub_self, Nat.reduceSub, Nat.reduceLT, Nat.reduceLeDiff, Nat.reduceAdd, Nat.reduceEqDiff, List.replicate_zero, List.replicate_succ, List.getElem?_cons_zero, List.getElem?_cons_succ, List.length_cons, List.length_nil, List.set_cons_zero, List.set_cons_succ, Bool.not_true, Bool.not_false, Bool.false_eq_true, if_true, if_false, reduceIte, reduceCtorEq, Option.map_some, Option.getD_some, Option.getD_none, Option.bind_some, Option.some.injEq, Nat.zero_add, isiW, muM, Int.cast_ofNat_Int, Int.ofNat_zero, Int.natCast_one, Int.reduceEq, Int.reduceLT, Int.reduceAdd, Int.reduceSub, decide_true, decide_false, thingB, id, and_self]
      · rw [List.map_id, ha, Bool.true_and]
        rw [List.all_eq_true] at ha
        have at_ : ∀ j, j < ws.length → ∃ s b, ws[j]? = some (.tup [.str s, b]) := fun j hj => by
          obtain ⟨s, b, e⟩ := thingB_str (ha ws[j] (List.getElem_mem hj))
          exact ⟨s, b, by rw [List.getElem?_eq_getElem hj, e]⟩
        have e2 : evQ (callQ T F (k + 1)) T c_law_are_things_1 [some (.tup ws), y, none, none] = .ok (.lst ((((List.range (ws.length - 1)).map fun (k : Nat) => W.int (1 + k)).filter fun x => !(match x with | .int i => decide (kcps ws (i - 1).toNat < kcps ws i.toNat) | _ => false)).map id)) [some (.tup ws), y, none, none] := by
          refine ev_filter _ _ (ds := [.int 1, .int ws.length]) (by simp -implicitDefEqProofs only [execsQ, execQ, evQ, evsQ, evoQ, evA, argOf, getAs, putAs, asgQ, asgsQ, bindQ, bind_ok, isB_ok, opt_ok, wp_bind, wp_ok, wp_isB, wp_opt, wp_back, back_ok, ofD, wipeQ, backQ, maskQ, atsLen, List.map_cons, List.map_nil, List.cons_append, List.nil_append, List.append_nil, List.take_succ_cons, List.take_zero, Nat.sub_self, Nat.reduceSub, Nat.reduceLT, Nat.reduceLeDiff, Nat.reduceAdd, Nat.reduceEqDiff, List.replicate_zero, List.replicate_succ, List.getElem?_cons_zero, List.getElem?_cons_succ, List.length_cons, List.length_nil, List.set_cons_zero, List.set_cons_succ, Bool.not_true, Bool.not_false, Bool.false_eq_true, if_true, if_false, reduceIte, reduceCtorEq, Option.map_some, Option.getD_some, Option.getD_none, Option.bind_some, Option.some.injEq, Nat.zero_add, isiW, muM, Int.cast_ofNat_Int, Int.ofNat_zero, Int.natCast_one, Int.reduceEq, Int.reduceLT, Int.reduceAdd, Int.reduceSub, decide_true, decide_false, len_tup]) (iter_rng2 (by omega)) (by rw [List.length_map, List.length_range]; omega) (by simp [tgSl]) fun x hx => ?_
          obtain ⟨j, hj, rfl⟩ := List.mem_map.mp hx
          refine ⟨_, rfl, ?_, fun _ => rfl⟩
          rw [List.mem_range] at hj
          obtain ⟨s, b, e1⟩ := at_ j (by omega)
          obtain ⟨s', b', e2⟩ := at_ (j + 1) (by omega)
          have i1 : (1 : Int) + j - 1 = (j : Int) := by omega
          have i2 : (1 : Int) + j = ((j + 1 : Nat) : Int) := by omega
          simp -implicitDefEqProofs only [execsQ, execQ, evQ, evsQ, evoQ, evA, argOf, getAs, putAs, asgQ, asgsQ, bindQ, bind_ok, isB_ok, opt_ok, wp_bind, wp_ok, wp_isB, wp_opt, wp_back, back_ok, ofD, wipeQ, backQ, maskQ, atsLen, List.map_cons, List.map_nil, List.cons_append, List.nil_append, List.append_nil, List.take_succ_cons, List.take_zero, Nat.sub_self, Nat.reduceSub, Nat.reduceLT, Nat.reduceLeDiff, Nat.reduceAdd, Nat.reduceEqDiff, List.replicate_zero, List.replicate_succ, List.getElem?_cons_zero, List.getElem?_cons_succ, List.length_cons, List.length_nil, List.set_cons_zero, List.set_cons_succ, Bool.not_true, Bool.not_false, Bool.false_eq_true, if_true, if_false, reduceIte, reduceCtorEq, Option.map_some, Option.getD_some, Option.getD_none, Option.bind_some, Option.some.injEq, Nat.zero_add, isiW, muM, Int.cast_ofNat_Int, Int.ofNat_zero, Int.natCast_one, Int.reduceEq, Int.reduceLT, Int.reduceAdd, Int.reduceSub, decide_true, decide_false, w_lt, w_gt, w_le, w_ge, w_lts, w_gts, w_les, w_ges, w_eq, w_ne, w_eqb, w_neb, w_eqs, w_nes, w_add, w_sub, w_isN, w_notN, i1, sub_tup i2 e2, sub_tup rfl e1, sub_two0, Int.toNat_natCast, kcps_at e1]
          simp -implicitDefEqProofs only [i2, Int.toNat_natCast, kcps_at e2]
        have hm : ∀ w ∈ (((List.range (ws.length - 1)).map fun (k : Nat) => W.int (1 + k)).filter fun x => !(match x with | .int i => decide (kcps ws (i - 1).toNat < kcps ws i.toNat) | _ => false)).map id, ∃ p, pdW 59 w = some p := fun w hw => by
          rw [List.map_id] at hw
          obtain ⟨c, hc, rfl⟩ := List.mem_map.mp (List.mem_filter.mp hw).1
          exact ⟨_, rfl⟩
        simp -implicitDefEqProofs only [execsQ, execQ, evQ, evsQ, evoQ, evA, argOf, getAs, putAs, asgQ, asgsQ, bindQ, bind_ok, isB_ok, opt_ok, wp_bind, wp_ok, wp_isB, wp_opt, wp_back, back_ok, ofD, wipeQ, backQ, maskQ, atsLen, List.map_cons, List.map_nil, List.cons_append, List.nil_append, List.append_nil, List.take_succ_cons, List.take_zero, Nat.sub_self, Nat.reduceSub, Nat.reduceLT, Nat.reduceLeDiff, Nat.reduceAdd, Nat.reduceEqDiff, List.replicate_zero, List.replicate_succ, List.getElem?_cons_zero, List.getElem?_cons_succ, List.length_cons, List.length_nil, List.set_cons_zero, List.set_cons_succ, Bool.not_true, Bool.not_false, Bool.false_eq_true, if_true, if_false, reduceIte, reduceCtorEq, Option.map_some, Option.getD_some, Option.getD_none, Option.bind_some, Option.some.injEq, Nat.zero_add, isiW, muM, Int.cast_ofNat_Int, Int.ofNat_zero, Int.natCast_one, Int.reduceEq, Int.reduceLT, Int.reduceAdd, Int.reduceSub, decide_true, decide_false, e2, if_pos (sz_small (Nat.zero_le _)), w_eq_nil hm, and_true]
        congr 1
        unfold incB
        rw [List.map_id, filter_empty, List.all_map]
        congr 1
        funext j
        have i1 : (1 : Int) + j - 1 = (j : Int) := by omega
        have i2 : (1 : Int) + j = ((j + 1 : Nat) : Int) := by omega
        simp only [Function.comp, i1, Int.toNat_natCast, Bool.not_not]
        rw [i2, Int.toNat_natCast]
      · simp -implicitDefEqProofs only [execsQ, execQ, evQ, evsQ, evoQ, evA, argOf, getAs, putAs, asgQ, asgsQ, bindQ, bind_ok, isB_ok, opt_ok, wp_bind, wp_ok, wp_isB, wp_opt, wp_back, back_ok, ofD, wipeQ, backQ, maskQ, atsLen, List.map_cons, List.map_nil, List.cons_append, List.nil_append, List.append_nil, List.take_succ_cons, List.take_zero, Nat.sub_self, Nat.reduceSub, Nat.reduceLT, Nat.reduceLeDiff, Nat.reduceAdd, Nat.reduceEqDiff, List.replicate_zero, List.replicate_succ, List.getElem?_cons_zero, List.getElem?_cons_succ, List.length_cons, List.length_nil, List.set_cons_zero, List.set_cons_succ, Bool.not_true, Bool.not_false, Bool.false_eq_true, if_true, if_false, reduceIte, reduceCtorEq, Option.map_some, Option.getD_some, Option.getD_none, Option.bind_some, Option.some.injEq, Nat.zero_add, isiW, muM, Int.cast_ofNat_Int, Int.ofNat_zero, Int.natCast_one, Int.reduceEq, Int.reduceLT, Int.reduceAdd, Int.reduceSub, decide_true, decide_false, List.map_id, ha, Bool.false_and, and_self]
  | _ => simp -implicitDefEqProofs only [f_law_are_things, b_law_are_things, w_law_are_things_1, w_law_are_things_2, w_law_are_things_3, t_law_are_things_1, w_law_are_things_4, t_law_are_things_2, t_law_are_things_3, execsQ, execQ, evQ, evsQ, evoQ, evA, argOf, getAs, putAs, asgQ, asgsQ, bindQ, bind_ok, isB_ok, opt_ok, wp_bind, wp_ok, wp_isB, wp_opt, wp_back, back_ok, ofD, wipeQ, backQ, maskQ, atsLen, List.map_cons, List.map_nil, List.cons_append, List.nil_append, List.append_nil, List.take_succ_cons, List.take_zero, Nat.sub_self, Nat.reduceSub, Nat.reduceLT, Nat.reduceLeDiff, Nat.reduceAdd, Nat.reduceEqDiff, List.replicate_zero, List.replicate_succ, List.getElem?_cons_zero, List.getElem?_cons_succ, List.length_cons, List.length_nil, List.set_cons_zero, List.set_cons_succ, Bool.not_true, Bool.not_false, Bool.false_eq_true, if_true, if_false, reduceIte, reduceCtorEq, Option.map_some, Option.getD_some, Option.getD_none, Option.bind_some, Option.some.injEq, Nat.zero_add, isiW, muM, Int.cast_ofNat_Int, Int.ofNat_zero, Int.natCast_one, Int.reduceEq, Int.reduceLT, Int.reduceAdd, Int.reduceSub, decide_true, decide_false, thingsB, and_self]
end
end Pq
set_option Elab.async false
set_option linter.all false
set_option maxRecDepth 100000
set_option maxHeartbeats 1000000
/-! the law's digits; the feed -/
namespace Pq
open PySem PySem.Spec PyProof.Rows L2 Pv
section
variable {T : QTbl} {F k : Nat} {w : W} {s : Str} {ns : List Int} {fd : W}
theorem range5 : List.range 5 = [0, 1, 2, 3, 4] := rfl
theorem digs_eq (n : Nat) : (List.range 5).map (fun (k : Nat) => W.int ((n / 4 ^ k % 4 : Nat) : Int)) = digs n := by
  simp only [range5, List.map_cons, List.map_nil, digs]
  congr 1
  congr 1
  simp
theorem num_fold2 : ∀ (l : List Nat) (n p : Nat), l.foldl (fun (q : Nat × Nat) c => (q.1 + (c - 97) * q.2, q.2 * 4)) (n, p) = (n + p * num l, p * 4 ^ l.length)
  | [], n, p => by simp [num]
  | c :: l, n, p => by
    rw [List.foldl_cons, num_fold2 l]
    simp only [num, List.length_cons, Nat.pow_succ, Prod.mk.injEq]
    refine ⟨?_, ?_⟩
    · rw [Nat.mul_add, Nat.mul_comm (c - 97) p, ← Nat.mul_assoc, Nat.add_assoc]
    · rw [Nat.mul_assoc, Nat.mul_comm 4]
theorem pow5 {j : Nat} (hj : j < 5) : subW (.lst [.int 1, .int 4, .int 16, .int 64, .int 256]) (.int (j : Int)) = some (.int ((4 ^ j : Nat) : Int)) := by
  match j, hj with
  | 0, _ => rfl
  | 1, _ => rfl
  | 2, _ => rfl
  | 3, _ => rfl
  | 4, _ => rfl
theorem law_digits_ok (h : has T "_law_digits" f_law_digits) (hw : Word s) : callQ T F (k + 1) "_law_digits" [.str s] = .ok (.tup (digs (nOf s))) [none] := by
  refine call_eq (wp_call h ⟨rfl, by decide, rfl⟩ ?_)
  simp -implicitDefEqProofs only [f_law_digits, b_law_digits, t_law_digits_1, t_law_digits_2, t_law_digits_3, t_law_digits_4, execsQ, execQ, evQ, evsQ, evoQ, evA, argOf, getAs, putAs, asgQ, asgsQ, bindQ, bind_ok, isB_ok, opt_ok, wp_bind, wp_ok, wp_isB, wp_opt, wp_back, back_ok, ofD, wipeQ, backQ, maskQ, atsLen, List.map_cons, List.map_nil, List.cons_append, List.nil_append, List.append_nil, List.take_succ_cons, List.take_zero, Nat.sub_self, Nat.reduceSub, Nat.reduceLT, Nat.reduceLeDiff, Nat.reduceAdd, Nat.reduceEqDiff, List.replicate_zero, List.replicate_succ, List.getElem?_cons_zero, List.getElem?_cons_succ, List.length_cons, List.length_nil, List.set_cons_zero, List.set_cons_succ, Bool.not_true, Bool.not_false, Bool.false_eq_true, if_true, if_false, reduceIte, reduceCtorEq, Option.map_some, Option.getD_some, Option.getD_none, Option.bind_some, Option.some.injEq, Nat.zero_add, isiW, muM, Int.cast_ofNat_Int, Int.ofNat_zero, Int.natCast_one, Int.reduceEq, Int.reduceLT, Int.reduceAdd, Int.reduceSub, decide_true, decide_false, slc_str hw.le, i_str, cut5]
  refine for_fold (fun (q : Nat × Nat) y => [some (.str s), some (.int (q.1 : Int)), some (.int (q.2 : Int)), y, none, none]) (fun (q : Nat × Nat) c => (q.1 + (c - 97) * q.2, q.2 * 4)) _ (0, 1) none (fun c hc q y => ?_) fun y => ?_
  · have hm : c ∈ lettersL := hw.1 c (List.mem_of_mem_take hc)
    have hv := letters_val hm
    have e : (q.1 : Int) + ((c - 97 : Nat) : Int) * (q.2 : Int) = ((q.1 + (c - 97) * q.2 : Nat) : Int) := by rw [Int.natCast_add, Int.natCast_mul]
    have e2 : (q.2 : Int) * 4 = ((q.2 * 4 : Nat) : Int) := by omega
    simp -implicitDefEqProofs only [w_law_digits_1, t_law_digits_1, execsQ, execQ, evQ, evsQ, evoQ, evA, argOf, getAs, putAs, asgQ, asgsQ, bindQ, bind_ok, isB_ok, opt_ok, wp_bind, wp_ok, wp_isB, wp_opt, wp_back, back_ok, ofD, wipeQ, backQ, maskQ, atsLen, List.map_cons, List.map_nil, List.cons_append, List.nil_append, List.append_nil, List.take_succ_cons, List.take_zero, Nat.sub_self, Nat.reduceSub, Nat.reduceLT, Nat.reduceLeDiff, Nat.reduceAdd, Nat.reduceEqDiff, List.replicate_zero, List.replicate_succ, List.getElem?_cons_zero, List.getElem?_cons_succ, List.length_cons, List.length_nil, List.set_cons_zero, List.set_cons_succ, Bool.not_true, Bool.not_false, Bool.false_eq_true, if_true, if_false, reduceIte, reduceCtorEq, Option.map_some, Option.getD_some, Option.getD_none, Option.bind_some, Option.some.injEq, Nat.zero_add, isiW, muM, Int.cast_ofNat_Int, Int.ofNat_zero, Int.natCast_one, Int.reduceEq, Int.reduceLT, Int.reduceAdd, Int.reduceSub, decide_true, decide_false, idx_ok hm, w_mul' (i := ((c - 97 : Nat) : Int)) (j := (q.2 : Int)) (by omega), w_mul (i := (q.2 : Int)) (j := 4) (by decide), w_lt, w_gt, w_le, w_ge, w_lts, w_gts, w_les, w_ges, w_eq, w_ne, w_eqb, w_neb, w_eqs, w_nes, w_add, w_sub, w_isN, w_notN, e, e2, and_self]
  · rw [num_fold2]
    simp only [Nat.zero_add, Nat.one_mul]
    have e : evQ (callQ T F k) T c_law_digits_1 [some (.str s), some (.int ((num (s.cps.toList.take 5) : Nat) : Int)), some (.int ((4 ^ (s.cps.toList.take 5).length : Nat) : Int)), y, none, none] = .ok (.lst (digs (nOf s))) [some (.str s), some (.int ((num (s.cps.toList.take 5) : Nat) : Int)), some (.int ((4 ^ (s.cps.toList.take 5).length : Nat) : Int)), y, none, none] := by
      have er : (List.range 5).map (fun (k : Nat) => W.int (k : Int)) = [.int 0, .int 1, .int 2, .int 3, .int 4] := rfl
      have := ev_map (clq := callQ T F k) (T := T) (elt := .bin .Mod (.bin .FloorDiv (.var 1) (.sub (.lst (.cons (.cst (.int 1)) (.cons (.cst (.int 4)) (.cons (.cst (.int 16)) (.cons (.cst (.int 64)) (.cons (.cst (.int 256)) .nil)))))) (.var 5))) (.cst (.int 4))) (t := .nm 5) (ik := .range) (es := .cons (.cst (.int 5)) .nil) (own := [4, 5]) (ρ := [some (.str s), some (.int ((num (s.cps.toList.take 5) : Nat) : Int)), some (.int ((4 ^ (s.cps.toList.take 5).length : Nat) : Int)), y, none, none]) (ds := [.int 5]) (fun x => match x with | .int j => .int ((nOf s / 4 ^ j.toNat % 4 : Nat) : Int) | _ => .non) rfl (iter_rng1 rfl (by decide)) (by rw [List.length_map, List.length_range]; exact sz_small (by decide)) (by simp [tgSl]) fun x hx => ?_
      · rw [List.map_map] at this
        refine Eq.trans (this) ?_
        rw [← digs_eq]
        rfl
      · obtain ⟨j, hj, rfl⟩ := List.mem_map.mp hx
        rw [List.mem_range] at hj
        refine ⟨_, rfl, ?_⟩
        have hp : (0 : Int) < ((4 ^ j : Nat) : Int) := by
          have : 0 < 4 ^ j := Nat.pow_pos (by decide)
          omega
        have hp2 : ((4 ^ j : Nat) : Int) < 1267650600228229401496703205376 := by
          have h4 : 4 ^ j ≤ 4 ^ 5 := Nat.pow_le_pow_right (by decide) (Nat.le_of_lt hj)
          have h5 : (4 : Nat) ^ 5 = 1024 := rfl
          rw [h5] at h4
          omega
        have e5 := pow5 hj
        have e6 : ((num (s.cps.toList.take 5) : Nat) : Int) / ((4 ^ j : Nat) : Int) % 4 = ((nOf s / 4 ^ j % 4 : Nat) : Int) := by
          unfold nOf
          generalize num (s.cps.toList.take 5) = m
          generalize 4 ^ j = p
          rw [← Int.natCast_ediv]
          generalize m / p = q
          omega
        simp -implicitDefEqProofs only [execsQ, execQ, evQ, evsQ, evoQ, evA, argOf, getAs, putAs, asgQ, asgsQ, bindQ, bind_ok, isB_ok, opt_ok, wp_bind, wp_ok, wp_isB, wp_opt, wp_back, back_ok, ofD, wipeQ, backQ, maskQ, atsLen, List.map_cons, List.map_nil, List.cons_append, List.nil_append, List.append_nil, List.take_succ_cons, List.take_zero, Nat.sub_self, Nat.reduceSub, Nat.reduceLT, Nat.reduceLeDiff, Nat.reduceAdd, Nat.reduceEqDiff, List.replicate_zero, List.replicate_succ, List.getElem?_cons_zero, List.getElem?_cons_succ, List.length_cons, List.length_nil, List.set_cons_zero, List.set_cons_succ, Bool.not_true, Bool.not_false, Bool.false_eq_true, if_true, if_false, reduceIte, reduceCtorEq, Option.map_some, Option.getD_some, Option.getD_none, Option.bind_some, Option.some.injEq, Nat.zero_add, isiW, muM, Int.cast_ofNat_Int, Int.ofNat_zero, Int.natCast_one, Int.reduceEq, Int.reduceLT, Int.reduceAdd, Int.reduceSub, decide_true, decide_false, if_pos (sz_small (show 5 ≤ 10000000 by decide)), e5, w_div hp hp2, w_mod (j := 4) (by decide), e6, Int.toNat_natCast]
    simp -implicitDefEqProofs only [execsQ, execQ, evQ, evsQ, evoQ, evA, argOf, getAs, putAs, asgQ, asgsQ, bindQ, bind_ok, isB_ok, opt_ok, wp_bind, wp_ok, wp_isB, wp_opt, wp_back, back_ok, ofD, wipeQ, backQ, maskQ, atsLen, List.map_cons, List.map_nil, List.cons_append, List.nil_append, List.append_nil, List.take_succ_cons, List.take_zero, Nat.sub_self, Nat.reduceSub, Nat.reduceLT, Nat.reduceLeDiff, Nat.reduceAdd, Nat.reduceEqDiff, List.replicate_zero, List.replicate_succ, List.getElem?_cons_zero, List.getElem?_cons_succ, List.length_cons, List.length_nil, List.set_cons_zero, List.set_cons_succ, Bool.not_true, Bool.not_false, Bool.false_eq_true, if_true, if_false, reduceIte, reduceCtorEq, Option.map_some, Option.getD_some, Option.getD_none, Option.bind_some, Option.some.injEq, Nat.zero_add, isiW, muM, Int.cast_ofNat_Int, Int.ofNat_zero, Int.natCast_one, Int.reduceEq, Int.reduceLT, Int.reduceAdd, Int.reduceSub, decide_true, decide_false, t_law_digits_2, e, tuple_lst, and_self]
/-! ### the feed -/
def FeedOk (ns : List Int) (w : W) : Prop := ∃ a b c : Nat, w = .lst [.lst (ns.map .int), .int a, .int b, .int c] ∧ c ≤ ns.length
structure LFeed (T : QTbl) : Prop where
  feed : has T "_law_feed" f_law_feed
  draw : has T "_law_draw" f_law_draw
theorem law_feed_ok (h : has T "_law_feed" f_law_feed) (hl : ns.length ≤ 63) : ∃ fd, callQ T F (k + 1) "_law_feed" [.fzl (ns.map .int)] = .ok fd [none] ∧ FeedOk ns fd := by
  have hc : Pv.cutD (ns.map W.int) none (some 63) = ns.map .int := by
    unfold Pv.cutD
    have h0 : HT.sIx (ns.map W.int).length 0 none = 0 := rfl
    have h5 : HT.sIx (ns.map W.int).length (ns.map W.int).length (some 63) = min 63 (ns.map W.int).length := by
      show HT.sIx _ _ (some ((63 : Nat) : Int)) = _
      rw [HT.sIx_nat]
    rw [h0, h5, List.drop_zero, Nat.sub_zero, Nat.min_eq_right (by rw [List.length_map]; exact hl), List.take_length]
  refine ⟨_, call_eq (wp_call h ⟨rfl, by decide, rfl⟩ ?_), 0, 0, 0, rfl, Nat.zero_le _⟩
  have e1 : slcW (.fzl (ns.map .int)) none (some 63) = some (.lst (ns.map .int)) := by simp only [slcW, hc]
  have e2 : biW .list [.lst (ns.map .int)] = some (.lst (ns.map .int)) := rfl
  simp -implicitDefEqProofs only [f_law_feed, b_law_feed, execsQ, execQ, evQ, evsQ, evoQ, evA, argOf, getAs, putAs, asgQ, asgsQ, bindQ, bind_ok, isB_ok, opt_ok, wp_bind, wp_ok, wp_isB, wp_opt, wp_back, back_ok, ofD, wipeQ, backQ, maskQ, atsLen, List.map_cons, List.map_nil, List.cons_append, List.nil_append, List.append_nil, List.take_succ_cons, List.take_zero, Nat.sub_self, Nat.reduceSub, Nat.reduceLT, Nat.reduceLeDiff, Nat.reduceAdd, Nat.reduceEqDiff, List.replicate_zero, List.replicate_succ, List.getElem?_cons_zero, List.getElem?_cons_succ, List.length_cons, List.length_nil, List.set_cons_zero, List.set_cons_succ, Bool.not_true, Bool.not_false, Bool.false_eq_true, if_true, if_false, reduceIte, reduceCtorEq, Option.map_some, Option.getD_some, Option.getD_none, Option.bind_some, Option.some.injEq, Nat.zero_add, isiW, muM, Int.cast_ofNat_Int, Int.ofNat_zero, Int.natCast_one, Int.reduceEq, Int.reduceLT, Int.reduceAdd, Int.reduceSub, decide_true, decide_false, e1, e2, if_pos (sz_small (show 4 ≤ 10000000 by decide)), and_self]
section
variable {x y z u d : W}
theorem q0 : subW (.lst [x, y, z, u]) (.int 0) = some x := rfl
theorem q1 : subW (.lst [x, y, z, u]) (.int 1) = some y := rfl
theorem q2 : subW (.lst [x, y, z, u]) (.int 2) = some z := rfl
theorem q3 : subW (.lst [x, y, z, u]) (.int 3) = some u := rfl
theorem p1 : setW (.lst [x, y, z, u]) (.int 1) d = some (.lst [x, d, z, u]) := rfl
theorem p2 : setW (.lst [x, y, z, u]) (.int 2) d = some (.lst [x, y, d, u]) := rfl
theorem p3 : setW (.lst [x, y, z, u]) (.int 3) d = some (.lst [x, y, z, d]) := rfl
end
theorem draw_ok {P : W → QEnv → Prop} (h : has T "_law_draw" f_law_draw) (hf : FeedOk ns fd) (hF : ns.length < F) (n : Nat) {i : Int} (ei : i = (n : Int)) (hn : 0 < n) (hn2 : n < 1267650600228229401496703205376)
    (hp : ∀ v fd', v < n → FeedOk ns fd' → P (.int ((v : Nat) : Int)) [some fd', none]) : WP (callQ T F (k + 1) "_law_draw" [fd, .int i]) P := by
  subst ei
  obtain ⟨a, b, c, rfl, hc⟩ := hf
  refine wp_call h ⟨rfl, by decide, rfl⟩ ?_
  have e1 : (a : Int) + 1 = ((a + 1 : Nat) : Int) := by omega
  have rest : ∀ b c : Nat, c ≤ ns.length → WP (execsQ (callQ T F k) T F t_law_draw_9 [some (.lst [.lst (ns.map .int), .int ((a + 1 : Nat) : Int), .int b, .int c]), some (.int n), none, none, none]) fun o ρ' => match o with
      | .ret d => P d (maskQ f_law_draw.kd (ρ'.take f_law_draw.np))
      | .nx => P .non (maskQ f_law_draw.kd (ρ'.take f_law_draw.np))
      | _ => False := fun b c hc => by
    have hn' : (0 : Int) < (n : Int) := by omega
    have hn2' : (n : Int) < 1267650600228229401496703205376 := by omega
    by_cases hb : 0 < b
    · have hb' : (0 : Int) < (b : Int) := by omega
      have m1 : (b : Int) % (n : Int) = ((b % n : Nat) : Int) := by rw [Int.natCast_emod]
      have m2 : (b : Int) / (n : Int) = ((b / n : Nat) : Int) := by rw [Int.natCast_ediv]
      simp -implicitDefEqProofs only [t_law_draw_9, w_law_draw_3, t_law_draw_3, t_law_draw_2, execsQ, execQ, evQ, evsQ, evoQ, evA, argOf, getAs, putAs, asgQ, asgsQ, bindQ, bind_ok, isB_ok, opt_ok, wp_bind, wp_ok, wp_isB, wp_opt, wp_back, back_ok, ofD, wipeQ, backQ, maskQ, atsLen, List.map_cons, List.map_nil, List.cons_append, List.nil_append, List.append_nil, List.take_succ_cons, List.take_zero, Nat.sub_self, Nat.reduceSub, Nat.reduceLT, Nat.reduceLeDiff, Nat.reduceAdd, Nat.reduceEqDiff, List.replicate_zero, List.replicate_succ, List.getElem?_cons_zero, List.getElem?_cons_succ, List.length_cons, List.length_nil, List.set_cons_zero, List.set_cons_succ, Bool.not_true, Bool.not_false, Bool.false_eq_true, if_true, if_false, reduceIte, reduceCtorEq, Option.map_some, Option.getD_some, Option.getD_none, Option.bind_some, Option.some.injEq, Nat.zero_add, isiW, muM, Int.cast_ofNat_Int, Int.ofNat_zero, Int.natCast_one, Int.reduceEq, Int.reduceLT, Int.reduceAdd, Int.reduceSub, decide_true, decide_false, q2, p2, w_lt, w_gt, w_le, w_ge, w_lts, w_gts, w_les, w_ges, w_eq, w_ne, w_eqb, w_neb, w_eqs, w_nes, w_add, w_sub, w_isN, w_notN, decide_eq_true hb', w_mod hn', w_div hn' hn2', m1, m2, f_law_draw]
      exact hp _ _ (Nat.mod_lt _ hn) ⟨_, _, _, rfl, hc⟩
    · have hb' : ¬ (0 : Int) < (b : Int) := by omega
      -- the cell
      have cell : ∃ z : Int, WP (execsQ (callQ T F k) T F t_law_draw_6 [some (.lst [.lst (ns.map .int), .int ((a + 1 : Nat) : Int), .int b, .int c]), some (.int n), none, some (.int z), none]) (fun o ρ' => match o with
          | .ret d => P d (maskQ f_law_draw.kd (ρ'.take f_law_draw.np))
          | .nx => P .non (maskQ f_law_draw.kd (ρ'.take f_law_draw.np))
          | _ => False) → WP (execsQ (callQ T F k) T F t_law_draw_7 [some (.lst [.lst (ns.map .int), .int ((a + 1 : Nat) : Int), .int b, .int c]), some (.int n), none, some (.int 0), none]) (fun o ρ' => match o with
          | .ret d => P d (maskQ f_law_draw.kd (ρ'.take f_law_draw.np))
          | .nx => P .non (maskQ f_law_draw.kd (ρ'.take f_law_draw.np))
          | _ => False) := by
        by_cases hl : (0 : Int) < (ns.length : Int)
        · have ha : ((a + 1 : Nat) : Int) % (ns.length : Int) = (((a + 1) % ns.length : Nat) : Int) := by rw [Int.natCast_emod]
          have hlt : (a + 1) % ns.length < ns.length := Nat.mod_lt _ (by omega)
          have hg : (ns.map W.int)[(a + 1) % ns.length]? = some (.int ns[(a + 1) % ns.length]) := by rw [List.getElem?_map, List.getElem?_eq_getElem hlt]; rfl
          refine ⟨ns[(a + 1) % ns.length], fun hz => ?_⟩
          simp -implicitDefEqProofs only [t_law_draw_7, w_law_draw_4, execsQ, execQ, evQ, evsQ, evoQ, evA, argOf, getAs, putAs, asgQ, asgsQ, bindQ, bind_ok, isB_ok, opt_ok, wp_bind, wp_ok, wp_isB, wp_opt, wp_back, back_ok, ofD, wipeQ, backQ, maskQ, atsLen, List.map_cons, List.map_nil, List.cons_append, List.nil_append, List.append_nil, List.take_succ_cons, List.take_zero, Nat.sub_self, Nat.reduceSub, Nat.reduceLT, Nat.reduceLeDiff, Nat.reduceAdd, Nat.reduceEqDiff, List.replicate_zero, List.replicate_succ, List.getElem?_cons_zero, List.getElem?_cons_succ, List.length_cons, List.length_nil, List.set_cons_zero, List.set_cons_succ, Bool.not_true, Bool.not_false, Bool.false_eq_true, if_true, if_false, reduceIte, reduceCtorEq, Option.map_some, Option.getD_some, Option.getD_none, Option.bind_some, Option.some.injEq, Nat.zero_add, isiW, muM, Int.cast_ofNat_Int, Int.ofNat_zero, Int.natCast_one, Int.reduceEq, Int.reduceLT, Int.reduceAdd, Int.reduceSub, decide_true, decide_false, q0, q1, len_lst, List.length_map, w_lt, w_gt, w_le, w_ge, w_lts, w_gts, w_les, w_ges, w_eq, w_ne, w_eqb, w_neb, w_eqs, w_nes, w_add, w_sub, w_isN, w_notN, decide_eq_true hl, w_mod hl, ha, sub_lst rfl hg]
          exact hz
        · refine ⟨0, fun hz => ?_⟩
          simp -implicitDefEqProofs only [t_law_draw_7, execsQ, execQ, evQ, evsQ, evoQ, evA, argOf, getAs, putAs, asgQ, asgsQ, bindQ, bind_ok, isB_ok, opt_ok, wp_bind, wp_ok, wp_isB, wp_opt, wp_back, back_ok, ofD, wipeQ, backQ, maskQ, atsLen, List.map_cons, List.map_nil, List.cons_append, List.nil_append, List.append_nil, List.take_succ_cons, List.take_zero, Nat.sub_self, Nat.reduceSub, Nat.reduceLT, Nat.reduceLeDiff, Nat.reduceAdd, Nat.reduceEqDiff, List.replicate_zero, List.replicate_succ, List.getElem?_cons_zero, List.getElem?_cons_succ, List.length_cons, List.length_nil, List.set_cons_zero, List.set_cons_succ, Bool.not_true, Bool.not_false, Bool.false_eq_true, if_true, if_false, reduceIte, reduceCtorEq, Option.map_some, Option.getD_some, Option.getD_none, Option.bind_some, Option.some.injEq, Nat.zero_add, isiW, muM, Int.cast_ofNat_Int, Int.ofNat_zero, Int.natCast_one, Int.reduceEq, Int.reduceLT, Int.reduceAdd, Int.reduceSub, decide_true, decide_false, q0, len_lst, List.length_map, w_lt, w_gt, w_le, w_ge, w_lts, w_gts, w_les, w_ges, w_eq, w_ne, w_eqb, w_neb, w_eqs, w_nes, w_add, w_sub, w_isN, w_notN, decide_eq_false hl]
          exact hz
      obtain ⟨z, hz⟩ := cell
      simp -implicitDefEqProofs only [t_law_draw_9, t_law_draw_8, execsQ, execQ, evQ, evsQ, evoQ, evA, argOf, getAs, putAs, asgQ, asgsQ, bindQ, bind_ok, isB_ok, opt_ok, wp_bind, wp_ok, wp_isB, wp_opt, wp_back, back_ok, ofD, wipeQ, backQ, maskQ, atsLen, List.map_cons, List.map_nil, List.cons_append, List.nil_append, List.append_nil, List.take_succ_cons, List.take_zero, Nat.sub_self, Nat.reduceSub, Nat.reduceLT, Nat.reduceLeDiff, Nat.reduceAdd, Nat.reduceEqDiff, List.replicate_zero, List.replicate_succ, List.getElem?_cons_zero, List.getElem?_cons_succ, List.length_cons, List.length_nil, List.set_cons_zero, List.set_cons_succ, Bool.not_true, Bool.not_false, Bool.false_eq_true, if_true, if_false, reduceIte, reduceCtorEq, Option.map_some, Option.getD_some, Option.getD_none, Option.bind_some, Option.some.injEq, Nat.zero_add, isiW, muM, Int.cast_ofNat_Int, Int.ofNat_zero, Int.natCast_one, Int.reduceEq, Int.reduceLT, Int.reduceAdd, Int.reduceSub, decide_true, decide_false, q2, w_lt, w_gt, w_le, w_ge, w_lts, w_gts, w_les, w_ges, w_eq, w_ne, w_eqb, w_neb, w_eqs, w_nes, w_add, w_sub, w_isN, w_notN, decide_eq_false hb']
      refine hz ?_
      have g1 : (0 : Int) ≤ z % 2147483647 := Int.emod_nonneg _ (by decide)
      simp -implicitDefEqProofs only [t_law_draw_6, t_law_draw_5, t_law_draw_4, execsQ, execQ, evQ, evsQ, evoQ, evA, argOf, getAs, putAs, asgQ, asgsQ, bindQ, bind_ok, isB_ok, opt_ok, wp_bind, wp_ok, wp_isB, wp_opt, wp_back, back_ok, ofD, wipeQ, backQ, maskQ, atsLen, List.map_cons, List.map_nil, List.cons_append, List.nil_append, List.append_nil, List.take_succ_cons, List.take_zero, Nat.sub_self, Nat.reduceSub, Nat.reduceLT, Nat.reduceLeDiff, Nat.reduceAdd, Nat.reduceEqDiff, List.replicate_zero, List.replicate_succ, List.getElem?_cons_zero, List.getElem?_cons_succ, List.length_cons, List.length_nil, List.set_cons_zero, List.set_cons_succ, Bool.not_true, Bool.not_false, Bool.false_eq_true, if_true, if_false, reduceIte, reduceCtorEq, Option.map_some, Option.getD_some, Option.getD_none, Option.bind_some, Option.some.injEq, Nat.zero_add, isiW, muM, Int.cast_ofNat_Int, Int.ofNat_zero, Int.natCast_one, Int.reduceEq, Int.reduceLT, Int.reduceAdd, Int.reduceSub, decide_true, decide_false, q1, w_lt, w_gt, w_le, w_ge, w_lts, w_gts, w_les, w_ges, w_eq, w_ne, w_eqb, w_neb, w_eqs, w_nes, w_add, w_sub, w_isN, w_notN, w_mod (j := 2147483647) (by decide), w_mod (j := 2147483629) (by decide), w_mod (j := 2147483587) (by decide), w_mod (j := 2147483563) (by decide), w_mod hn', w_mul (j := 48271) (by decide), w_mul' (i := 7919) (by decide), w_mul (j := 16807) (by decide)]
      generalize (z % 2147483647 * 48271 + 7919 * ((a + 1 : Nat) : Int) + 12345) = y
      have y1 := Int.emod_nonneg y (b := 2147483629) (by decide)
      have y2 := Int.emod_lt_of_pos y (b := 2147483629) (by decide)
      generalize y % 2147483629 = x at y1 y2
      simp -implicitDefEqProofs only [execsQ, execQ, evQ, evsQ, evoQ, evA, argOf, getAs, putAs, asgQ, asgsQ, bindQ, bind_ok, isB_ok, opt_ok, wp_bind, wp_ok, wp_isB, wp_opt, wp_back, back_ok, ofD, wipeQ, backQ, maskQ, atsLen, List.map_cons, List.map_nil, List.cons_append, List.nil_append, List.append_nil, List.take_succ_cons, List.take_zero, Nat.sub_self, Nat.reduceSub, Nat.reduceLT, Nat.reduceLeDiff, Nat.reduceAdd, Nat.reduceEqDiff, List.replicate_zero, List.replicate_succ, List.getElem?_cons_zero, List.getElem?_cons_succ, List.length_cons, List.length_nil, List.set_cons_zero, List.set_cons_succ, Bool.not_true, Bool.not_false, Bool.false_eq_true, if_true, if_false, reduceIte, reduceCtorEq, Option.map_some, Option.getD_some, Option.getD_none, Option.bind_some, Option.some.injEq, Nat.zero_add, isiW, muM, Int.cast_ofNat_Int, Int.ofNat_zero, Int.natCast_one, Int.reduceEq, Int.reduceLT, Int.reduceAdd, Int.reduceSub, decide_true, decide_false, w_mul' (i := x) (j := x + 40692) (by omega), w_mod (j := 2147483587) (by decide), w_mul (j := 16807) (by decide), w_mod (j := 2147483563) (by decide), w_mod hn', f_law_draw]
      generalize x * (x + 40692) % 2147483587 * 16807 % 2147483563 = r
      have r1 := Int.emod_nonneg r (b := (n : Int)) (by omega)
      have r2 := Int.emod_lt_of_pos r hn'
      have e : r % (n : Int) = (((r % (n : Int)).toNat : Nat) : Int) := by omega
      rw [e]
      exact hp _ _ (by omega) ⟨_, _, _, rfl, hc⟩
  simp -implicitDefEqProofs only [b_law_draw, t_law_draw_10, f_law_draw, execsQ, execQ, evQ, evsQ, evoQ, evA, argOf, getAs, putAs, asgQ, asgsQ, bindQ, bind_ok, isB_ok, opt_ok, wp_bind, wp_ok, wp_isB, wp_opt, wp_back, back_ok, ofD, wipeQ, backQ, maskQ, atsLen, List.map_cons, List.map_nil, List.cons_append, List.nil_append, List.append_nil, List.take_succ_cons, List.take_zero, Nat.sub_self, Nat.reduceSub, Nat.reduceLT, Nat.reduceLeDiff, Nat.reduceAdd, Nat.reduceEqDiff, List.replicate_zero, List.replicate_succ, List.getElem?_cons_zero, List.getElem?_cons_succ, List.length_cons, List.length_nil, List.set_cons_zero, List.set_cons_succ, Bool.not_true, Bool.not_false, Bool.false_eq_true, if_true, if_false, reduceIte, reduceCtorEq, Option.map_some, Option.getD_some, Option.getD_none, Option.bind_some, Option.some.injEq, Nat.zero_add, isiW, muM, Int.cast_ofNat_Int, Int.ofNat_zero, Int.natCast_one, Int.reduceEq, Int.reduceLT, Int.reduceAdd, Int.reduceSub, decide_true, decide_false, q1, p1, w_lt, w_gt, w_le, w_ge, w_lts, w_gts, w_les, w_ges, w_eq, w_ne, w_eqb, w_neb, w_eqs, w_nes, w_add, w_sub, w_isN, w_notN, e1]
  refine wp_wh (fun m ρ => ∃ b c : Nat, ρ = [some (.lst [.lst (ns.map .int), .int ((a + 1 : Nat) : Int), .int b, .int c]), some (.int n), none, none, none] ∧ c ≤ ns.length ∧ m = ns.length - c) (fun m ρ hI => ?_) F (ns.length - c) _ (by omega) ⟨b, c, rfl, hc, rfl⟩
  obtain ⟨b, c, rfl, hc, rfl⟩ := hI
  simp -implicitDefEqProofs only [execsQ, execQ, evQ, evsQ, evoQ, evA, argOf, getAs, putAs, asgQ, asgsQ, bindQ, bind_ok, isB_ok, opt_ok, wp_bind, wp_ok, wp_isB, wp_opt, wp_back, back_ok, ofD, wipeQ, backQ, maskQ, atsLen, List.map_cons, List.map_nil, List.cons_append, List.nil_append, List.append_nil, List.take_succ_cons, List.take_zero, Nat.sub_self, Nat.reduceSub, Nat.reduceLT, Nat.reduceLeDiff, Nat.reduceAdd, Nat.reduceEqDiff, List.replicate_zero, List.replicate_succ, List.getElem?_cons_zero, List.getElem?_cons_succ, List.length_cons, List.length_nil, List.set_cons_zero, List.set_cons_succ, Bool.not_true, Bool.not_false, Bool.false_eq_true, if_true, if_false, reduceIte, reduceCtorEq, Option.map_some, Option.getD_some, Option.getD_none, Option.bind_some, Option.some.injEq, Nat.zero_add, isiW, muM, Int.cast_ofNat_Int, Int.ofNat_zero, Int.natCast_one, Int.reduceEq, Int.reduceLT, Int.reduceAdd, Int.reduceSub, decide_true, decide_false, q2, q3, q0, len_lst, w_lt, w_gt, w_le, w_ge, w_lts, w_gts, w_les, w_ges, w_eq, w_ne, w_eqb, w_neb, w_eqs, w_nes, w_add, w_sub, w_isN, w_notN, List.length_map]
  by_cases h0 : (b : Int) = 0
  · by_cases h1 : (c : Int) < (ns.length : Int)
    · have hlt : c < ns.length := by omega
      have hg : (ns.map W.int)[c]? = some (.int ns[c]) := by rw [List.getElem?_map, List.getElem?_eq_getElem hlt]; rfl
      have e3 : (c : Int) + 1 = ((c + 1 : Nat) : Int) := by omega
      obtain ⟨v, hv⟩ : ∃ v : Nat, (if ns[c] < 0 then -ns[c] else ns[c]) = (v : Int) := ⟨(if ns[c] < 0 then -ns[c] else ns[c]).toNat, by split <;> omega⟩
      simp -implicitDefEqProofs only [decide_eq_true h0, decide_eq_true h1, execsQ, execQ, evQ, evsQ, evoQ, evA, argOf, getAs, putAs, asgQ, asgsQ, bindQ, bind_ok, isB_ok, opt_ok, wp_bind, wp_ok, wp_isB, wp_opt, wp_back, back_ok, ofD, wipeQ, backQ, maskQ, atsLen, List.map_cons, List.map_nil, List.cons_append, List.nil_append, List.append_nil, List.take_succ_cons, List.take_zero, Nat.sub_self, Nat.reduceSub, Nat.reduceLT, Nat.reduceLeDiff, Nat.reduceAdd, Nat.reduceEqDiff, List.replicate_zero, List.replicate_succ, List.getElem?_cons_zero, List.getElem?_cons_succ, List.length_cons, List.length_nil, List.set_cons_zero, List.set_cons_succ, Bool.not_true, Bool.not_false, Bool.false_eq_true, if_true, if_false, reduceIte, reduceCtorEq, Option.map_some, Option.getD_some, Option.getD_none, Option.bind_some, Option.some.injEq, Nat.zero_add, isiW, muM, Int.cast_ofNat_Int, Int.ofNat_zero, Int.natCast_one, Int.reduceEq, Int.reduceLT, Int.reduceAdd, Int.reduceSub, decide_true, decide_false, w_law_draw_2, t_law_draw_1, w_law_draw_1, q0, q3, p3, p2, sub_lst rfl hg, b_abs, hv, pow_18, w_lt, w_gt, w_le, w_ge, w_lts, w_gts, w_les, w_ges, w_eq, w_ne, w_eqb, w_neb, w_eqs, w_nes, w_add, w_sub, w_isN, w_notN, e3, false_and, true_and, false_or, or_true, true_or]
      by_cases h2 : (v : Int) < 1000000000000000000
      · simp -implicitDefEqProofs only [decide_eq_true h2, execsQ, execQ, evQ, evsQ, evoQ, evA, argOf, getAs, putAs, asgQ, asgsQ, bindQ, bind_ok, isB_ok, opt_ok, wp_bind, wp_ok, wp_isB, wp_opt, wp_back, back_ok, ofD, wipeQ, backQ, maskQ, atsLen, List.map_cons, List.map_nil, List.cons_append, List.nil_append, List.append_nil, List.take_succ_cons, List.take_zero, Nat.sub_self, Nat.reduceSub, Nat.reduceLT, Nat.reduceLeDiff, Nat.reduceAdd, Nat.reduceEqDiff, List.replicate_zero, List.replicate_succ, List.getElem?_cons_zero, List.getElem?_cons_succ, List.length_cons, List.length_nil, List.set_cons_zero, List.set_cons_succ, Bool.not_true, Bool.not_false, Bool.false_eq_true, if_true, if_false, reduceIte, reduceCtorEq, Option.map_some, Option.getD_some, Option.getD_none, Option.bind_some, Option.some.injEq, Nat.zero_add, isiW, muM, Int.cast_ofNat_Int, Int.ofNat_zero, Int.natCast_one, Int.reduceEq, Int.reduceLT, Int.reduceAdd, Int.reduceSub, decide_true, decide_false, q0, q3, p3, p2, sub_lst rfl hg, b_abs, hv, pow_18, w_lt, w_gt, w_le, w_ge, w_lts, w_gts, w_les, w_ges, w_eq, w_ne, w_eqb, w_neb, w_eqs, w_nes, w_add, w_sub, w_isN, w_notN, e3]
        exact .inr ⟨_, (by omega), b, c + 1, rfl, hlt, rfl⟩
      · simp -implicitDefEqProofs only [decide_eq_false h2, execsQ, execQ, evQ, evsQ, evoQ, evA, argOf, getAs, putAs, asgQ, asgsQ, bindQ, bind_ok, isB_ok, opt_ok, wp_bind, wp_ok, wp_isB, wp_opt, wp_back, back_ok, ofD, wipeQ, backQ, maskQ, atsLen, List.map_cons, List.map_nil, List.cons_append, List.nil_append, List.append_nil, List.take_succ_cons, List.take_zero, Nat.sub_self, Nat.reduceSub, Nat.reduceLT, Nat.reduceLeDiff, Nat.reduceAdd, Nat.reduceEqDiff, List.replicate_zero, List.replicate_succ, List.getElem?_cons_zero, List.getElem?_cons_succ, List.length_cons, List.length_nil, List.set_cons_zero, List.set_cons_succ, Bool.not_true, Bool.not_false, Bool.false_eq_true, if_true, if_false, reduceIte, reduceCtorEq, Option.map_some, Option.getD_some, Option.getD_none, Option.bind_some, Option.some.injEq, Nat.zero_add, isiW, muM, Int.cast_ofNat_Int, Int.ofNat_zero, Int.natCast_one, Int.reduceEq, Int.reduceLT, Int.reduceAdd, Int.reduceSub, decide_true, decide_false, q0, q3, p3, p2, sub_lst rfl hg, b_abs, hv, pow_18, w_lt, w_gt, w_le, w_ge, w_lts, w_gts, w_les, w_ges, w_eq, w_ne, w_eqb, w_neb, w_eqs, w_nes, w_add, w_sub, w_isN, w_notN, e3]
        exact .inr ⟨_, (by omega), v, c + 1, rfl, hlt, rfl⟩
    · simp -implicitDefEqProofs only [decide_eq_true h0, decide_eq_false h1, execsQ, execQ, evQ, evsQ, evoQ, evA, argOf, getAs, putAs, asgQ, asgsQ, bindQ, bind_ok, isB_ok, opt_ok, wp_bind, wp_ok, wp_isB, wp_opt, wp_back, back_ok, ofD, wipeQ, backQ, maskQ, atsLen, List.map_cons, List.map_nil, List.cons_append, List.nil_append, List.append_nil, List.take_succ_cons, List.take_zero, Nat.sub_self, Nat.reduceSub, Nat.reduceLT, Nat.reduceLeDiff, Nat.reduceAdd, Nat.reduceEqDiff, List.replicate_zero, List.replicate_succ, List.getElem?_cons_zero, List.getElem?_cons_succ, List.length_cons, List.length_nil, List.set_cons_zero, List.set_cons_succ, Bool.not_true, Bool.not_false, Bool.false_eq_true, if_true, if_false, reduceIte, reduceCtorEq, Option.map_some, Option.getD_some, Option.getD_none, Option.bind_some, Option.some.injEq, Nat.zero_add, isiW, muM, Int.cast_ofNat_Int, Int.ofNat_zero, Int.natCast_one, Int.reduceEq, Int.reduceLT, Int.reduceAdd, Int.reduceSub, decide_true, decide_false, true_and]
      exact .inl (rest b c hc)
  · simp -implicitDefEqProofs only [decide_eq_false h0, execsQ, execQ, evQ, evsQ, evoQ, evA, argOf, getAs, putAs, asgQ, asgsQ, bindQ, bind_ok, isB_ok, opt_ok, wp_bind, wp_ok, wp_isB, wp_opt, wp_back, back_ok, ofD, wipeQ, backQ, maskQ, atsLen, List.map_cons, List.map_nil, List.cons_append, List.nil_append, List.append_nil, List.take_succ_cons, List.take_zero, Nat.sub_self, Nat.reduceSub, Nat.reduceLT, Nat.reduceLeDiff, Nat.reduceAdd, Nat.reduceEqDiff, List.replicate_zero, List.replicate_succ, List.getElem?_cons_zero, List.getElem?_cons_succ, List.length_cons, List.length_nil, List.set_cons_zero, List.set_cons_succ, Bool.not_true, Bool.not_false, Bool.false_eq_true, if_true, if_false, reduceIte, reduceCtorEq, Option.map_some, Option.getD_some, Option.getD_none, Option.bind_some, Option.some.injEq, Nat.zero_add, isiW, muM, Int.cast_ofNat_Int, Int.ofNat_zero, Int.natCast_one, Int.reduceEq, Int.reduceLT, Int.reduceAdd, Int.reduceSub, decide_true, decide_false, true_and]
    exact .inl (rest b c hc)
end
end Pq
set_option Elab.async false
set_option linter.all false
set_option maxRecDepth 100000
set_option maxHeartbeats 1000000
/-! keys, values, tables drawn -/
namespace Pq
open PySem PySem.Spec PyProof.Rows L2 Pv
theorem app_cps (a b : Str) : (a ++ b).cps.toList = a.cps.toList ++ b.cps.toList := by
  rw [cps_app]; simp
theorem app_len (a b : Str) : (a ++ b).length = a.length + b.length := by
  simp only [Str.length, cps_app, Array.size_append]
/-- what a key is -/
def KeyS (s : Str) : Prop := 1 ≤ s.length ∧ s.length ≤ 8 ∧ ∀ c ∈ s.cps.toList, c ∈ lettersL
theorem KeyS.word {s : Str} (h : KeyS s) : Word s := ⟨h.2.2, by have := h.2.1; omega⟩
theorem KeyS.fit {s : Str} (h : KeyS s) : fitW (.str s) = true := by simp only [fitW, decide_eq_true_eq]; have := h.2.1; omega
theorem KeyS.keyB {s : Str} (h : KeyS s) : keyB (.str s) = true := by
  simp only [Pq.keyB, Bool.and_eq_true, decide_eq_true_eq, List.all_eq_true]
  exact ⟨⟨h.1, h.2.1⟩, h.2.2⟩
theorem keyS_of {w : W} (h : keyB w = true) : ∃ s, w = .str s ∧ KeyS s := by
  obtain ⟨s, rfl⟩ := keyB_str h
  simp only [Pq.keyB, Bool.and_eq_true, decide_eq_true_eq, List.all_eq_true] at h
  exact ⟨s, rfl, h.1.1, h.1.2, h.2⟩
def aStr (n : Nat) : Str := ⟨(List.replicate n 97).toArray⟩
theorem flat_one : ∀ n : Nat, (List.replicate n [97]).flatten = List.replicate n 97
  | 0 => rfl
  | n + 1 => by rw [List.replicate_succ, List.flatten_cons, flat_one n, List.replicate_succ]; rfl
theorem a_cps : (Str.ofString "a").cps.toList = [97] := by decide +kernel
theorem mul_a {n : Nat} {i : Int} (e : i = (n : Int)) (h : n ≤ 1000) : binopW .Mult (.str (Str.ofString "a")) (.int i) = some (.str (aStr n)) := by
  subst e
  have hl : (Str.ofString "a").length ≤ 1000 := by decide +kernel
  simp only [binopW]
  rw [if_pos ⟨by omega, by omega, hl⟩, a_cps, Int.toNat_natCast, flat_one]
  rfl
theorem a_len {n : Nat} : (aStr n).length = n := by simp [aStr, Str.length]
theorem a_low {n : Nat} : ∀ c ∈ (aStr n).cps.toList, c ∈ lettersL := by
  intro c hc
  simp only [aStr, List.toList_toArray] at hc
  rw [List.eq_of_mem_replicate hc]
  decide
theorem app_low {a b : Str} (ha : ∀ c ∈ a.cps.toList, c ∈ lettersL) (hb : ∀ c ∈ b.cps.toList, c ∈ lettersL) : ∀ c ∈ (a ++ b).cps.toList, c ∈ lettersL := by
  intro c hc
  rw [app_cps] at hc
  rcases List.mem_append.mp hc with h | h
  · exact ha c h
  · exact hb c h
/-- one of a list by a drawn number -/
theorem pick {xs : List W} {v : Nat} (h : v < xs.length) : ∃ x, x ∈ xs ∧ subW (.lst xs) (.int (v : Int)) = some x := ⟨xs[v], List.getElem_mem h, sub_lst rfl (List.getElem?_eq_getElem h)⟩
theorem pick_sign {z : Str} {v : Nat} (hz : z.length ≤ sizeLine) (h : v < z.length) : ∃ c, c ∈ z.cps.toList ∧ subW (.str z) (.int (v : Int)) = some (wsign c) := by
  have hl : v < z.cps.toList.length := by simpa [Str.length] using h
  exact ⟨z.cps.toList[v], List.getElem_mem hl, sub_str hz rfl (List.getElem?_eq_getElem hl)⟩
theorem letters_len : (Str.ofString "abcdefghijklmnopqrstuvwxyz").length = 26 := by decide +kernel
theorem wsign_len {c : Nat} : (⟨#[c]⟩ : Str).length = 1 := rfl
structure LGen1 (T : QTbl) : Prop extends LFeed T where
  key : has T "_law_key" f_law_key
  value : has T "_law_value" f_law_value
  table : has T "_law_table" f_law_table
theorem empty_str : (Str.ofString "").length = 0 ∧ (Str.ofString "").cps.toList = [] := by decide +kernel
section
variable {T : QTbl} {F k : Nat} {w : W} {s : Str} {ns : List Int} {fd : W} {P : W → QEnv → Prop}
theorem law_key_ok (G : LGen1 T) (hf : FeedOk ns fd) (hF : ns.length < F) (hp : ∀ t fd', KeyS t → FeedOk ns fd' → P (.str t) [some fd']) : WP (callQ T F (k + 2) "_law_key" [fd]) P := by
  refine wp_call G.key ⟨rfl, by decide, rfl⟩ ?_
  simp -implicitDefEqProofs only [f_law_key, b_law_key, t_law_key_6, execsQ, execQ, evQ, evsQ, evoQ, evA, argOf, getAs, putAs, asgQ, asgsQ, bindQ, bind_ok, isB_ok, opt_ok, wp_bind, wp_ok, wp_isB, wp_opt, wp_back, back_ok, ofD, wipeQ, backQ, maskQ, atsLen, List.map_cons, List.map_nil, List.cons_append, List.nil_append, List.append_nil, List.take_succ_cons, List.take_zero, Nat.sub_self, Nat.reduceSub, Nat.reduceLT, Nat.reduceLeDiff, Nat.reduceAdd, Nat.reduceEqDiff, List.replicate_zero, List.replicate_succ, List.getElem?_cons_zero, List.getElem?_cons_succ, List.length_cons, List.length_nil, List.set_cons_zero, List.set_cons_succ, Bool.not_true, Bool.not_false, Bool.false_eq_true, if_true, if_false, reduceIte, reduceCtorEq, Option.map_some, Option.getD_some, Option.getD_none, Option.bind_some, Option.some.injEq, Nat.zero_add, isiW, muM, Int.cast_ofNat_Int, Int.ofNat_zero, Int.natCast_one, Int.reduceEq, Int.reduceLT, Int.reduceAdd, Int.reduceSub, decide_true, decide_false, G.draw, f_law_draw]
  refine draw_ok G.draw hf hF 5 rfl (by decide) (by decide) fun v fd hv hf => ?_
  have e1 : (1 : Int) + (v : Int) = ((v + 1 : Nat) : Int) := by omega
  simp -implicitDefEqProofs only [t_law_key_5, execsQ, execQ, evQ, evsQ, evoQ, evA, argOf, getAs, putAs, asgQ, asgsQ, bindQ, bind_ok, isB_ok, opt_ok, wp_bind, wp_ok, wp_isB, wp_opt, wp_back, back_ok, ofD, wipeQ, backQ, maskQ, atsLen, List.map_cons, List.map_nil, List.cons_append, List.nil_append, List.append_nil, List.take_succ_cons, List.take_zero, Nat.sub_self, Nat.reduceSub, Nat.reduceLT, Nat.reduceLeDiff, Nat.reduceAdd, Nat.reduceEqDiff, List.replicate_zero, List.replicate_succ, List.getElem?_cons_zero, List.getElem?_cons_succ, List.length_cons, List.length_nil, List.set_cons_zero, List.set_cons_succ, Bool.not_true, Bool.not_false, Bool.false_eq_true, if_true, if_false, reduceIte, reduceCtorEq, Option.map_some, Option.getD_some, Option.getD_none, Option.bind_some, Option.some.injEq, Nat.zero_add, isiW, muM, Int.cast_ofNat_Int, Int.ofNat_zero, Int.natCast_one, Int.reduceEq, Int.reduceLT, Int.reduceAdd, Int.reduceSub, decide_true, decide_false, w_lt, w_gt, w_le, w_ge, w_lts, w_gts, w_les, w_ges, w_eq, w_ne, w_eqb, w_neb, w_eqs, w_nes, w_add, w_sub, w_isN, w_notN, e1, iter_rng1 (n := v + 1) rfl (by omega)]
  refine wp_for (all := (List.range (v + 1)).map fun (k : Nat) => W.int (k : Int)) (fun i ρ => ∃ fd s y, ρ = [some fd, some (.int ((v + 1 : Nat) : Int)), some (.str s), y, none] ∧ s.length = i ∧ i ≤ v + 1 ∧ (∀ c ∈ s.cps.toList, c ∈ lettersL) ∧ FeedOk ns fd) (fun i x ρ hx hI => ?_) (fun ρ hI => ?_) _ 0 _ rfl (Nat.zero_le _) ⟨fd, _, none, rfl, empty_str.1, Nat.zero_le _, by rw [empty_str.2]; simp, hf⟩
  · obtain ⟨fd, s, y, rfl, h1, h2, h3, h4⟩ := hI
    have hi : i < v + 1 := by simpa using (List.getElem?_eq_some_iff.mp hx).1
    simp -implicitDefEqProofs only [w_law_key_1, execsQ, execQ, evQ, evsQ, evoQ, evA, argOf, getAs, putAs, asgQ, asgsQ, bindQ, bind_ok, isB_ok, opt_ok, wp_bind, wp_ok, wp_isB, wp_opt, wp_back, back_ok, ofD, wipeQ, backQ, maskQ, atsLen, List.map_cons, List.map_nil, List.cons_append, List.nil_append, List.append_nil, List.take_succ_cons, List.take_zero, Nat.sub_self, Nat.reduceSub, Nat.reduceLT, Nat.reduceLeDiff, Nat.reduceAdd, Nat.reduceEqDiff, List.replicate_zero, List.replicate_succ, List.getElem?_cons_zero, List.getElem?_cons_succ, List.length_cons, List.length_nil, List.set_cons_zero, List.set_cons_succ, Bool.not_true, Bool.not_false, Bool.false_eq_true, if_true, if_false, reduceIte, reduceCtorEq, Option.map_some, Option.getD_some, Option.getD_none, Option.bind_some, Option.some.injEq, Nat.zero_add, isiW, muM, Int.cast_ofNat_Int, Int.ofNat_zero, Int.natCast_one, Int.reduceEq, Int.reduceLT, Int.reduceAdd, Int.reduceSub, decide_true, decide_false, G.draw, f_law_draw, if_pos (sz_small (show 3 ≤ 10000000 by decide))]
    refine draw_ok G.draw h4 hF 3 rfl (by decide) (by decide) fun u fd hu hf => ?_
    obtain ⟨m, hm, em⟩ : ∃ m : Nat, (0 < m ∧ m ≤ 26) ∧ subW (.lst [.int 2, .int 4, .int 26]) (.int (u : Int)) = some (.int (m : Int)) := by
      obtain ⟨x, hx, e⟩ := pick (xs := [.int 2, .int 4, .int 26]) (v := u) hu
      simp only [List.mem_cons, List.not_mem_nil, or_false] at hx
      rcases hx with rfl | rfl | rfl
      · exact ⟨2, by decide, e⟩
      · exact ⟨4, by decide, e⟩
      · exact ⟨26, by decide, e⟩
    simp -implicitDefEqProofs only [em, execsQ, execQ, evQ, evsQ, evoQ, evA, argOf, getAs, putAs, asgQ, asgsQ, bindQ, bind_ok, isB_ok, opt_ok, wp_bind, wp_ok, wp_isB, wp_opt, wp_back, back_ok, ofD, wipeQ, backQ, maskQ, atsLen, List.map_cons, List.map_nil, List.cons_append, List.nil_append, List.append_nil, List.take_succ_cons, List.take_zero, Nat.sub_self, Nat.reduceSub, Nat.reduceLT, Nat.reduceLeDiff, Nat.reduceAdd, Nat.reduceEqDiff, List.replicate_zero, List.replicate_succ, List.getElem?_cons_zero, List.getElem?_cons_succ, List.length_cons, List.length_nil, List.set_cons_zero, List.set_cons_succ, Bool.not_true, Bool.not_false, Bool.false_eq_true, if_true, if_false, reduceIte, reduceCtorEq, Option.map_some, Option.getD_some, Option.getD_none, Option.bind_some, Option.some.injEq, Nat.zero_add, isiW, muM, Int.cast_ofNat_Int, Int.ofNat_zero, Int.natCast_one, Int.reduceEq, Int.reduceLT, Int.reduceAdd, Int.reduceSub, decide_true, decide_false]
    refine draw_ok G.draw hf hF m rfl hm.1 (by omega) fun u fd hu hf => ?_
    obtain ⟨c, hc, ec⟩ := pick_sign (z := Str.ofString "abcdefghijklmnopqrstuvwxyz") (v := u) (by rw [letters_len]; exact sz_small (by decide)) (by rw [letters_len]; omega)
    have hl : s.length + (⟨#[c]⟩ : Str).length ≤ sizeLine := sz_small (by rw [wsign_len]; omega)
    simp -implicitDefEqProofs only [ec, wsign, w_adds hl, execsQ, execQ, evQ, evsQ, evoQ, evA, argOf, getAs, putAs, asgQ, asgsQ, bindQ, bind_ok, isB_ok, opt_ok, wp_bind, wp_ok, wp_isB, wp_opt, wp_back, back_ok, ofD, wipeQ, backQ, maskQ, atsLen, List.map_cons, List.map_nil, List.cons_append, List.nil_append, List.append_nil, List.take_succ_cons, List.take_zero, Nat.sub_self, Nat.reduceSub, Nat.reduceLT, Nat.reduceLeDiff, Nat.reduceAdd, Nat.reduceEqDiff, List.replicate_zero, List.replicate_succ, List.getElem?_cons_zero, List.getElem?_cons_succ, List.length_cons, List.length_nil, List.set_cons_zero, List.set_cons_succ, Bool.not_true, Bool.not_false, Bool.false_eq_true, if_true, if_false, reduceIte, reduceCtorEq, Option.map_some, Option.getD_some, Option.getD_none, Option.bind_some, Option.some.injEq, Nat.zero_add, isiW, muM, Int.cast_ofNat_Int, Int.ofNat_zero, Int.natCast_one, Int.reduceEq, Int.reduceLT, Int.reduceAdd, Int.reduceSub, decide_true, decide_false]
    refine ⟨fd, _, some x, rfl, by rw [app_len, wsign_len]; omega, by omega, app_low h3 ?_, hf⟩
    intro d hd
    simp at hd
    subst hd
    rw [letters_cps] at hc
    exact hc
  · obtain ⟨fd, s, y, rfl, h1, h2, h3, h4⟩ := hI
    rw [List.length_map, List.length_range] at h1
    have hsl : s.length ≤ sizeLine := sz_small (by omega)
    simp -implicitDefEqProofs only [t_law_key_4, execsQ, execQ, evQ, evsQ, evoQ, evA, argOf, getAs, putAs, asgQ, asgsQ, bindQ, bind_ok, isB_ok, opt_ok, wp_bind, wp_ok, wp_isB, wp_opt, wp_back, back_ok, ofD, wipeQ, backQ, maskQ, atsLen, List.map_cons, List.map_nil, List.cons_append, List.nil_append, List.append_nil, List.take_succ_cons, List.take_zero, Nat.sub_self, Nat.reduceSub, Nat.reduceLT, Nat.reduceLeDiff, Nat.reduceAdd, Nat.reduceEqDiff, List.replicate_zero, List.replicate_succ, List.getElem?_cons_zero, List.getElem?_cons_succ, List.length_cons, List.length_nil, List.set_cons_zero, List.set_cons_succ, Bool.not_true, Bool.not_false, Bool.false_eq_true, if_true, if_false, reduceIte, reduceCtorEq, Option.map_some, Option.getD_some, Option.getD_none, Option.bind_some, Option.some.injEq, Nat.zero_add, isiW, muM, Int.cast_ofNat_Int, Int.ofNat_zero, Int.natCast_one, Int.reduceEq, Int.reduceLT, Int.reduceAdd, Int.reduceSub, decide_true, decide_false, G.draw, f_law_draw]
    refine draw_ok G.draw h4 hF 5 rfl (by decide) (by decide) fun u fd hu hf => ?_
    simp -implicitDefEqProofs only [t_law_key_3, execsQ, execQ, evQ, evsQ, evoQ, evA, argOf, getAs, putAs, asgQ, asgsQ, bindQ, bind_ok, isB_ok, opt_ok, wp_bind, wp_ok, wp_isB, wp_opt, wp_back, back_ok, ofD, wipeQ, backQ, maskQ, atsLen, List.map_cons, List.map_nil, List.cons_append, List.nil_append, List.append_nil, List.take_succ_cons, List.take_zero, Nat.sub_self, Nat.reduceSub, Nat.reduceLT, Nat.reduceLeDiff, Nat.reduceAdd, Nat.reduceEqDiff, List.replicate_zero, List.replicate_succ, List.getElem?_cons_zero, List.getElem?_cons_succ, List.length_cons, List.length_nil, List.set_cons_zero, List.set_cons_succ, Bool.not_true, Bool.not_false, Bool.false_eq_true, if_true, if_false, reduceIte, reduceCtorEq, Option.map_some, Option.getD_some, Option.getD_none, Option.bind_some, Option.some.injEq, Nat.zero_add, isiW, muM, Int.cast_ofNat_Int, Int.ofNat_zero, Int.natCast_one, Int.reduceEq, Int.reduceLT, Int.reduceAdd, Int.reduceSub, decide_true, decide_false, w_lt, w_gt, w_le, w_ge, w_lts, w_gts, w_les, w_ges, w_eq, w_ne, w_eqb, w_neb, w_eqs, w_nes, w_add, w_sub, w_isN, w_notN]
    by_cases h0 : (u : Int) = 0
    · have e9 : (9 : Int) - (s.length : Int) = ((9 - s.length : Nat) : Int) := by omega
      simp -implicitDefEqProofs only [decide_eq_true h0, w_law_key_2, execsQ, execQ, evQ, evsQ, evoQ, evA, argOf, getAs, putAs, asgQ, asgsQ, bindQ, bind_ok, isB_ok, opt_ok, wp_bind, wp_ok, wp_isB, wp_opt, wp_back, back_ok, ofD, wipeQ, backQ, maskQ, atsLen, List.map_cons, List.map_nil, List.cons_append, List.nil_append, List.append_nil, List.take_succ_cons, List.take_zero, Nat.sub_self, Nat.reduceSub, Nat.reduceLT, Nat.reduceLeDiff, Nat.reduceAdd, Nat.reduceEqDiff, List.replicate_zero, List.replicate_succ, List.getElem?_cons_zero, List.getElem?_cons_succ, List.length_cons, List.length_nil, List.set_cons_zero, List.set_cons_succ, Bool.not_true, Bool.not_false, Bool.false_eq_true, if_true, if_false, reduceIte, reduceCtorEq, Option.map_some, Option.getD_some, Option.getD_none, Option.bind_some, Option.some.injEq, Nat.zero_add, isiW, muM, Int.cast_ofNat_Int, Int.ofNat_zero, Int.natCast_one, Int.reduceEq, Int.reduceLT, Int.reduceAdd, Int.reduceSub, decide_true, decide_false, w_lt, w_gt, w_le, w_ge, w_lts, w_gts, w_les, w_ges, w_eq, w_ne, w_eqb, w_neb, w_eqs, w_nes, w_add, w_sub, w_isN, w_notN, G.draw, f_law_draw, len_str hsl, e9]
      refine draw_ok G.draw hf hF (9 - s.length) rfl (by omega) (by omega) fun z fd hz hf => ?_
      have hl : s.length + (aStr z).length ≤ sizeLine := sz_small (by rw [a_len]; omega)
      simp -implicitDefEqProofs only [mul_a rfl (show z ≤ 1000 by omega), w_adds hl, execsQ, execQ, evQ, evsQ, evoQ, evA, argOf, getAs, putAs, asgQ, asgsQ, bindQ, bind_ok, isB_ok, opt_ok, wp_bind, wp_ok, wp_isB, wp_opt, wp_back, back_ok, ofD, wipeQ, backQ, maskQ, atsLen, List.map_cons, List.map_nil, List.cons_append, List.nil_append, List.append_nil, List.take_succ_cons, List.take_zero, Nat.sub_self, Nat.reduceSub, Nat.reduceLT, Nat.reduceLeDiff, Nat.reduceAdd, Nat.reduceEqDiff, List.replicate_zero, List.replicate_succ, List.getElem?_cons_zero, List.getElem?_cons_succ, List.length_cons, List.length_nil, List.set_cons_zero, List.set_cons_succ, Bool.not_true, Bool.not_false, Bool.false_eq_true, if_true, if_false, reduceIte, reduceCtorEq, Option.map_some, Option.getD_some, Option.getD_none, Option.bind_some, Option.some.injEq, Nat.zero_add, isiW, muM, Int.cast_ofNat_Int, Int.ofNat_zero, Int.natCast_one, Int.reduceEq, Int.reduceLT, Int.reduceAdd, Int.reduceSub, decide_true, decide_false]
      exact hp _ _ ⟨by rw [app_len]; omega, by rw [app_len, a_len]; omega, app_low h3 a_low⟩ hf
    · by_cases h1' : (u : Int) = 1
      · have e5 : (5 : Int) - ((v + 1 : Nat) : Int) = ((5 - (v + 1) : Nat) : Int) := by omega
        have ha : s.length + (aStr (5 - (v + 1))).length ≤ sizeLine := by rw [a_len]; exact sz_small (by omega)
        simp -implicitDefEqProofs only [decide_eq_false h0, decide_eq_true h1', t_law_key_2, w_law_key_3, execsQ, execQ, evQ, evsQ, evoQ, evA, argOf, getAs, putAs, asgQ, asgsQ, bindQ, bind_ok, isB_ok, opt_ok, wp_bind, wp_ok, wp_isB, wp_opt, wp_back, back_ok, ofD, wipeQ, backQ, maskQ, atsLen, List.map_cons, List.map_nil, List.cons_append, List.nil_append, List.append_nil, List.take_succ_cons, List.take_zero, Nat.sub_self, Nat.reduceSub, Nat.reduceLT, Nat.reduceLeDiff, Nat.reduceAdd, Nat.reduceEqDiff, List.replicate_zero, List.replicate_succ, List.getElem?_cons_zero, List.getElem?_cons_succ, List.length_cons, List.length_nil, List.set_cons_zero, List.set_cons_succ, Bool.not_true, Bool.not_false, Bool.false_eq_true, if_true, if_false, reduceIte, reduceCtorEq, Option.map_some, Option.getD_some, Option.getD_none, Option.bind_some, Option.some.injEq, Nat.zero_add, isiW, muM, Int.cast_ofNat_Int, Int.ofNat_zero, Int.natCast_one, Int.reduceEq, Int.reduceLT, Int.reduceAdd, Int.reduceSub, decide_true, decide_false, w_lt, w_gt, w_le, w_ge, w_lts, w_gts, w_les, w_ges, w_eq, w_ne, w_eqb, w_neb, w_eqs, w_nes, w_add, w_sub, w_isN, w_notN, G.draw, f_law_draw, e5, mul_a rfl (show 5 - (v + 1) ≤ 1000 by omega), w_adds ha, if_pos (sz_small (show 4 ≤ 10000000 by decide))]
        refine draw_ok G.draw hf hF 4 rfl (by decide) (by decide) fun z fd hz hf => ?_
        obtain ⟨t, ⟨t1, t2⟩, et⟩ : ∃ t : Str, (t.length ≤ 3 ∧ ∀ c ∈ t.cps.toList, c ∈ lettersL) ∧ subW (.lst [.str (Str.ofString "b"), .str (Str.ofString "z"), .str (Str.ofString "ab"), .str (Str.ofString "zzz")]) (.int (z : Int)) = some (.str t) := by
          obtain ⟨x, hx, e⟩ := pick (xs := [.str (Str.ofString "b"), .str (Str.ofString "z"), .str (Str.ofString "ab"), .str (Str.ofString "zzz")]) (v := z) hz
          simp only [List.mem_cons, List.not_mem_nil, or_false] at hx
          rcases hx with rfl | rfl | rfl | rfl
          · exact ⟨_, by decide +kernel, e⟩
          · exact ⟨_, by decide +kernel, e⟩
          · exact ⟨_, by decide +kernel, e⟩
          · exact ⟨_, by decide +kernel, e⟩
        have hal : (s ++ aStr (5 - (v + 1))).length = 5 := by rw [app_len, a_len]; omega
        simp -implicitDefEqProofs only [et, w_adds (show (s ++ aStr (5 - (v + 1))).length + t.length ≤ sizeLine by rw [hal]; exact sz_small (by omega)), execsQ, execQ, evQ, evsQ, evoQ, evA, argOf, getAs, putAs, asgQ, asgsQ, bindQ, bind_ok, isB_ok, opt_ok, wp_bind, wp_ok, wp_isB, wp_opt, wp_back, back_ok, ofD, wipeQ, backQ, maskQ, atsLen, List.map_cons, List.map_nil, List.cons_append, List.nil_append, List.append_nil, List.take_succ_cons, List.take_zero, Nat.sub_self, Nat.reduceSub, Nat.reduceLT, Nat.reduceLeDiff, Nat.reduceAdd, Nat.reduceEqDiff, List.replicate_zero, List.replicate_succ, List.getElem?_cons_zero, List.getElem?_cons_succ, List.length_cons, List.length_nil, List.set_cons_zero, List.set_cons_succ, Bool.not_true, Bool.not_false, Bool.false_eq_true, if_true, if_false, reduceIte, reduceCtorEq, Option.map_some, Option.getD_some, Option.getD_none, Option.bind_some, Option.some.injEq, Nat.zero_add, isiW, muM, Int.cast_ofNat_Int, Int.ofNat_zero, Int.natCast_one, Int.reduceEq, Int.reduceLT, Int.reduceAdd, Int.reduceSub, decide_true, decide_false]
        exact hp _ _ ⟨by rw [app_len]; omega, by rw [app_len]; omega, app_low (app_low h3 a_low) t2⟩ hf
      · simp -implicitDefEqProofs only [decide_eq_false h0, decide_eq_false h1', t_law_key_2, t_law_key_1, execsQ, execQ, evQ, evsQ, evoQ, evA, argOf, getAs, putAs, asgQ, asgsQ, bindQ, bind_ok, isB_ok, opt_ok, wp_bind, wp_ok, wp_isB, wp_opt, wp_back, back_ok, ofD, wipeQ, backQ, maskQ, atsLen, List.map_cons, List.map_nil, List.cons_append, List.nil_append, List.append_nil, List.take_succ_cons, List.take_zero, Nat.sub_self, Nat.reduceSub, Nat.reduceLT, Nat.reduceLeDiff, Nat.reduceAdd, Nat.reduceEqDiff, List.replicate_zero, List.replicate_succ, List.getElem?_cons_zero, List.getElem?_cons_succ, List.length_cons, List.length_nil, List.set_cons_zero, List.set_cons_succ, Bool.not_true, Bool.not_false, Bool.false_eq_true, if_true, if_false, reduceIte, reduceCtorEq, Option.map_some, Option.getD_some, Option.getD_none, Option.bind_some, Option.some.injEq, Nat.zero_add, isiW, muM, Int.cast_ofNat_Int, Int.ofNat_zero, Int.natCast_one, Int.reduceEq, Int.reduceLT, Int.reduceAdd, Int.reduceSub, decide_true, decide_false, w_lt, w_gt, w_le, w_ge, w_lts, w_gts, w_les, w_ges, w_eq, w_ne, w_eqb, w_neb, w_eqs, w_nes, w_add, w_sub, w_isN, w_notN]
        exact hp _ _ ⟨by omega, by omega, h3⟩ hf
theorem law_value_ok (G : LGen1 T) (hf : FeedOk ns fd) (hF : ns.length < F) (hp : ∀ i fd', valueB (.int i) = true → FeedOk ns fd' → P (.int i) [some fd']) : WP (callQ T F (k + 2) "_law_value" [fd]) P := by
  refine wp_call G.value ⟨rfl, by decide, rfl⟩ ?_
  simp -implicitDefEqProofs only [f_law_value, b_law_value, execsQ, execQ, evQ, evsQ, evoQ, evA, argOf, getAs, putAs, asgQ, asgsQ, bindQ, bind_ok, isB_ok, opt_ok, wp_bind, wp_ok, wp_isB, wp_opt, wp_back, back_ok, ofD, wipeQ, backQ, maskQ, atsLen, List.map_cons, List.map_nil, List.cons_append, List.nil_append, List.append_nil, List.take_succ_cons, List.take_zero, Nat.sub_self, Nat.reduceSub, Nat.reduceLT, Nat.reduceLeDiff, Nat.reduceAdd, Nat.reduceEqDiff, List.replicate_zero, List.replicate_succ, List.getElem?_cons_zero, List.getElem?_cons_succ, List.length_cons, List.length_nil, List.set_cons_zero, List.set_cons_succ, Bool.not_true, Bool.not_false, Bool.false_eq_true, if_true, if_false, reduceIte, reduceCtorEq, Option.map_some, Option.getD_some, Option.getD_none, Option.bind_some, Option.some.injEq, Nat.zero_add, isiW, muM, Int.cast_ofNat_Int, Int.ofNat_zero, Int.natCast_one, Int.reduceEq, Int.reduceLT, Int.reduceAdd, Int.reduceSub, decide_true, decide_false, G.draw, f_law_draw, pow_20, if_pos (sz_small (show 3 ≤ 10000000 by decide))]
  refine draw_ok G.draw hf hF 3 rfl (by decide) (by decide) fun u fd hu hf => ?_
  obtain ⟨m, hm, em⟩ : ∃ m : Nat, (0 < m ∧ m ≤ 100000000000000000000) ∧ subW (.lst [.int 5, .int 100, .int 100000000000000000000]) (.int (u : Int)) = some (.int (m : Int)) := by
    obtain ⟨x, hx, e⟩ := pick (xs := [.int 5, .int 100, .int 100000000000000000000]) (v := u) hu
    simp only [List.mem_cons, List.not_mem_nil, or_false] at hx
    rcases hx with rfl | rfl | rfl
    · exact ⟨5, by decide, e⟩
    · exact ⟨100, by decide, e⟩
    · exact ⟨100000000000000000000, by decide, e⟩
  simp -implicitDefEqProofs only [em, execsQ, execQ, evQ, evsQ, evoQ, evA, argOf, getAs, putAs, asgQ, asgsQ, bindQ, bind_ok, isB_ok, opt_ok, wp_bind, wp_ok, wp_isB, wp_opt, wp_back, back_ok, ofD, wipeQ, backQ, maskQ, atsLen, List.map_cons, List.map_nil, List.cons_append, List.nil_append, List.append_nil, List.take_succ_cons, List.take_zero, Nat.sub_self, Nat.reduceSub, Nat.reduceLT, Nat.reduceLeDiff, Nat.reduceAdd, Nat.reduceEqDiff, List.replicate_zero, List.replicate_succ, List.getElem?_cons_zero, List.getElem?_cons_succ, List.length_cons, List.length_nil, List.set_cons_zero, List.set_cons_succ, Bool.not_true, Bool.not_false, Bool.false_eq_true, if_true, if_false, reduceIte, reduceCtorEq, Option.map_some, Option.getD_some, Option.getD_none, Option.bind_some, Option.some.injEq, Nat.zero_add, isiW, muM, Int.cast_ofNat_Int, Int.ofNat_zero, Int.natCast_one, Int.reduceEq, Int.reduceLT, Int.reduceAdd, Int.reduceSub, decide_true, decide_false]
  refine draw_ok G.draw hf hF m rfl hm.1 (by omega) fun v fd hv hf => ?_
  simp -implicitDefEqProofs only [execsQ, execQ, evQ, evsQ, evoQ, evA, argOf, getAs, putAs, asgQ, asgsQ, bindQ, bind_ok, isB_ok, opt_ok, wp_bind, wp_ok, wp_isB, wp_opt, wp_back, back_ok, ofD, wipeQ, backQ, maskQ, atsLen, List.map_cons, List.map_nil, List.cons_append, List.nil_append, List.append_nil, List.take_succ_cons, List.take_zero, Nat.sub_self, Nat.reduceSub, Nat.reduceLT, Nat.reduceLeDiff, Nat.reduceAdd, Nat.reduceEqDiff, List.replicate_zero, List.replicate_succ, List.getElem?_cons_zero, List.getElem?_cons_succ, List.length_cons, List.length_nil, List.set_cons_zero, List.set_cons_succ, Bool.not_true, Bool.not_false, Bool.false_eq_true, if_true, if_false, reduceIte, reduceCtorEq, Option.map_some, Option.getD_some, Option.getD_none, Option.bind_some, Option.some.injEq, Nat.zero_add, isiW, muM, Int.cast_ofNat_Int, Int.ofNat_zero, Int.natCast_one, Int.reduceEq, Int.reduceLT, Int.reduceAdd, Int.reduceSub, decide_true, decide_false, G.draw, f_law_draw, if_pos (sz_small (show 2 ≤ 10000000 by decide))]
  refine draw_ok G.draw hf hF 2 rfl (by decide) (by decide) fun z fd hz hf => ?_
  obtain ⟨q, hq, eq⟩ : ∃ q : Int, (q = 1 ∨ q = -1) ∧ subW (.lst [.int 1, .int (-1)]) (.int (z : Int)) = some (.int q) := by
    obtain ⟨x, hx, e⟩ := pick (xs := [.int 1, .int (-1)]) (v := z) hz
    simp only [List.mem_cons, List.not_mem_nil, or_false] at hx
    rcases hx with rfl | rfl
    · exact ⟨1, .inl rfl, e⟩
    · exact ⟨-1, .inr rfl, e⟩
  have hb : -(2 ^ 64) < q ∧ q < 2 ^ 64 := by rcases hq with rfl | rfl <;> decide
  simp -implicitDefEqProofs only [eq, w_mul hb, execsQ, execQ, evQ, evsQ, evoQ, evA, argOf, getAs, putAs, asgQ, asgsQ, bindQ, bind_ok, isB_ok, opt_ok, wp_bind, wp_ok, wp_isB, wp_opt, wp_back, back_ok, ofD, wipeQ, backQ, maskQ, atsLen, List.map_cons, List.map_nil, List.cons_append, List.nil_append, List.append_nil, List.take_succ_cons, List.take_zero, Nat.sub_self, Nat.reduceSub, Nat.reduceLT, Nat.reduceLeDiff, Nat.reduceAdd, Nat.reduceEqDiff, List.replicate_zero, List.replicate_succ, List.getElem?_cons_zero, List.getElem?_cons_succ, List.length_cons, List.length_nil, List.set_cons_zero, List.set_cons_succ, Bool.not_true, Bool.not_false, Bool.false_eq_true, if_true, if_false, reduceIte, reduceCtorEq, Option.map_some, Option.getD_some, Option.getD_none, Option.bind_some, Option.some.injEq, Nat.zero_add, isiW, muM, Int.cast_ofNat_Int, Int.ofNat_zero, Int.natCast_one, Int.reduceEq, Int.reduceLT, Int.reduceAdd, Int.reduceSub, decide_true, decide_false]
  refine hp _ _ ?_ hf
  simp only [valueB, decide_eq_true_eq]
  rcases hq with rfl | rfl <;> omega
/-- a plain table: keys of letters, values, no key twice -/
structure TabOk (kvs : List (Key × W)) (n : Nat) : Prop where
  key : ∀ p ∈ kvs, ∃ s i, p = (.inr s, .int i) ∧ KeyS s ∧ valueB (.int i) = true
  nd : (kvs.map (·.1)).Nodup
  len : kvs.length ≤ n
theorem dput_len {kvs : List (Key × W)} {k : Key} {d : W} : (dput kvs k d).length ≤ kvs.length + 1 := by
  unfold dput
  split
  · rw [List.length_map]; omega
  · rw [List.length_append]; exact Nat.le_refl _
theorem dput_mem {kvs : List (Key × W)} {k : Key} {d : W} {p : Key × W} (h : p ∈ dput kvs k d) : p ∈ kvs ∨ p = (k, d) := by
  unfold dput at h
  split at h
  · obtain ⟨q, hq, rfl⟩ := List.mem_map.mp h
    split
    · rename_i e; right; rw [← e]
    · exact .inl hq
  · rcases List.mem_append.mp h with h | h
    · exact .inl h
    · simp at h; exact .inr h
theorem dput_keys {kvs : List (Key × W)} {k : Key} {d : W} : (dput kvs k d).map (·.1) = if (kvs.any fun kv => decide (kv.1 = k)) = true then kvs.map (·.1) else kvs.map (·.1) ++ [k] := by
  unfold dput
  split
  · rw [List.map_map]
    congr 1
    funext q
    simp only [Function.comp]
    split <;> rfl
  · rw [List.map_append]; rfl
theorem dput_nodup {kvs : List (Key × W)} {k : Key} {d : W} (h : (kvs.map (·.1)).Nodup) : ((dput kvs k d).map (·.1)).Nodup := by
  rw [dput_keys]
  split
  · exact h
  · rename_i hn
    rw [List.nodup_append]
    refine ⟨h, by simp, fun a ha b hb => ?_⟩
    simp at hb
    subst hb
    rintro rfl
    apply hn
    obtain ⟨q, hq, e⟩ := List.mem_map.mp ha
    rw [List.any_eq_true]
    exact ⟨q, hq, decide_eq_true e⟩
theorem TabOk.put {kvs : List (Key × W)} {n : Nat} {s : Str} {i : Int} (h : TabOk kvs n) (hs : KeyS s) (hi : valueB (.int i) = true) : TabOk (dput kvs (.inr s) (.int i)) (n + 1) :=
  ⟨fun p hp => (dput_mem hp).elim (h.key p) fun e => ⟨s, i, e, hs, hi⟩, dput_nodup h.nd, Nat.le_trans dput_len (by have := h.len; omega)⟩
theorem law_table_ok (G : LGen1 T) (hf : FeedOk ns fd) (hF : ns.length < F) (n : Nat) {i : Int} (ei : i = (n : Int)) (hn : n ≤ 1000) (hp : ∀ kvs fd', TabOk kvs n → FeedOk ns fd' → P (.dic kvs) [some fd', none]) : WP (callQ T F (k + 3) "_law_table" [fd, .int i]) P := by
  subst ei
  refine wp_call G.table ⟨rfl, by decide, rfl⟩ ?_
  have e1 : (n : Int) + 1 = ((n + 1 : Nat) : Int) := by omega
  simp -implicitDefEqProofs only [f_law_table, b_law_table, t_law_table_2, execsQ, execQ, evQ, evsQ, evoQ, evA, argOf, getAs, putAs, asgQ, asgsQ, bindQ, bind_ok, isB_ok, opt_ok, wp_bind, wp_ok, wp_isB, wp_opt, wp_back, back_ok, ofD, wipeQ, backQ, maskQ, atsLen, List.map_cons, List.map_nil, List.cons_append, List.nil_append, List.append_nil, List.take_succ_cons, List.take_zero, Nat.sub_self, Nat.reduceSub, Nat.reduceLT, Nat.reduceLeDiff, Nat.reduceAdd, Nat.reduceEqDiff, List.replicate_zero, List.replicate_succ, List.getElem?_cons_zero, List.getElem?_cons_succ, List.length_cons, List.length_nil, List.set_cons_zero, List.set_cons_succ, Bool.not_true, Bool.not_false, Bool.false_eq_true, if_true, if_false, reduceIte, reduceCtorEq, Option.map_some, Option.getD_some, Option.getD_none, Option.bind_some, Option.some.injEq, Nat.zero_add, isiW, muM, Int.cast_ofNat_Int, Int.ofNat_zero, Int.natCast_one, Int.reduceEq, Int.reduceLT, Int.reduceAdd, Int.reduceSub, decide_true, decide_false, w_lt, w_gt, w_le, w_ge, w_lts, w_gts, w_les, w_ges, w_eq, w_ne, w_eqb, w_neb, w_eqs, w_nes, w_add, w_sub, w_isN, w_notN, G.draw, f_law_draw, e1]
  refine draw_ok G.draw hf hF (n + 1) rfl (by omega) (by omega) fun m fd hm hf => ?_
  simp -implicitDefEqProofs only [iter_rng1 (n := m) rfl (by omega), execsQ, execQ, evQ, evsQ, evoQ, evA, argOf, getAs, putAs, asgQ, asgsQ, bindQ, bind_ok, isB_ok, opt_ok, wp_bind, wp_ok, wp_isB, wp_opt, wp_back, back_ok, ofD, wipeQ, backQ, maskQ, atsLen, List.map_cons, List.map_nil, List.cons_append, List.nil_append, List.append_nil, List.take_succ_cons, List.take_zero, Nat.sub_self, Nat.reduceSub, Nat.reduceLT, Nat.reduceLeDiff, Nat.reduceAdd, Nat.reduceEqDiff, List.replicate_zero, List.replicate_succ, List.getElem?_cons_zero, List.getElem?_cons_succ, List.length_cons, List.length_nil, List.set_cons_zero, List.set_cons_succ, Bool.not_true, Bool.not_false, Bool.false_eq_true, if_true, if_false, reduceIte, reduceCtorEq, Option.map_some, Option.getD_some, Option.getD_none, Option.bind_some, Option.some.injEq, Nat.zero_add, isiW, muM, Int.cast_ofNat_Int, Int.ofNat_zero, Int.natCast_one, Int.reduceEq, Int.reduceLT, Int.reduceAdd, Int.reduceSub, decide_true, decide_false]
  refine wp_for (all := (List.range m).map fun (k : Nat) => W.int (k : Int)) (fun i ρ => ∃ fd kvs y, ρ = [some fd, some (.int n), some (.dic kvs), y] ∧ TabOk kvs i ∧ i ≤ m ∧ FeedOk ns fd) (fun i x ρ hx hI => ?_) (fun ρ hI => ?_) _ 0 _ rfl (Nat.zero_le _) ⟨fd, [], none, rfl, ⟨by simp, by simp, Nat.le_refl _⟩, Nat.zero_le _, hf⟩
  · obtain ⟨fd, kvs, y, rfl, h1, h2, h3⟩ := hI
    have hi : i < m := by simpa using (List.getElem?_eq_some_iff.mp hx).1
    simp -implicitDefEqProofs only [w_law_table_1, execsQ, execQ, evQ, evsQ, evoQ, evA, argOf, getAs, putAs, asgQ, asgsQ, bindQ, bind_ok, isB_ok, opt_ok, wp_bind, wp_ok, wp_isB, wp_opt, wp_back, back_ok, ofD, wipeQ, backQ, maskQ, atsLen, List.map_cons, List.map_nil, List.cons_append, List.nil_append, List.append_nil, List.take_succ_cons, List.take_zero, Nat.sub_self, Nat.reduceSub, Nat.reduceLT, Nat.reduceLeDiff, Nat.reduceAdd, Nat.reduceEqDiff, List.replicate_zero, List.replicate_succ, List.getElem?_cons_zero, List.getElem?_cons_succ, List.length_cons, List.length_nil, List.set_cons_zero, List.set_cons_succ, Bool.not_true, Bool.not_false, Bool.false_eq_true, if_true, if_false, reduceIte, reduceCtorEq, Option.map_some, Option.getD_some, Option.getD_none, Option.bind_some, Option.some.injEq, Nat.zero_add, isiW, muM, Int.cast_ofNat_Int, Int.ofNat_zero, Int.natCast_one, Int.reduceEq, Int.reduceLT, Int.reduceAdd, Int.reduceSub, decide_true, decide_false, G.value, f_law_value]
    refine law_value_ok G h3 hF fun j fd hj hf => ?_
    simp -implicitDefEqProofs only [execsQ, execQ, evQ, evsQ, evoQ, evA, argOf, getAs, putAs, asgQ, asgsQ, bindQ, bind_ok, isB_ok, opt_ok, wp_bind, wp_ok, wp_isB, wp_opt, wp_back, back_ok, ofD, wipeQ, backQ, maskQ, atsLen, List.map_cons, List.map_nil, List.cons_append, List.nil_append, List.append_nil, List.take_succ_cons, List.take_zero, Nat.sub_self, Nat.reduceSub, Nat.reduceLT, Nat.reduceLeDiff, Nat.reduceAdd, Nat.reduceEqDiff, List.replicate_zero, List.replicate_succ, List.getElem?_cons_zero, List.getElem?_cons_succ, List.length_cons, List.length_nil, List.set_cons_zero, List.set_cons_succ, Bool.not_true, Bool.not_false, Bool.false_eq_true, if_true, if_false, reduceIte, reduceCtorEq, Option.map_some, Option.getD_some, Option.getD_none, Option.bind_some, Option.some.injEq, Nat.zero_add, isiW, muM, Int.cast_ofNat_Int, Int.ofNat_zero, Int.natCast_one, Int.reduceEq, Int.reduceLT, Int.reduceAdd, Int.reduceSub, decide_true, decide_false, G.key, f_law_key]
    refine law_key_ok G hf hF fun t fd ht hf => ?_
    have hl : kvs.length < sizeLine := by rw [sizeLine_eq]; have := h1.len; omega
    have es : setW (.dic kvs) (.str t) (.int j) = some (.dic (dput kvs (.inr t) (.int j))) := by
      simp only [setW, keyW, Option.bind_some, if_pos hl]
    simp -implicitDefEqProofs only [execsQ, execQ, evQ, evsQ, evoQ, evA, argOf, getAs, putAs, asgQ, asgsQ, bindQ, bind_ok, isB_ok, opt_ok, wp_bind, wp_ok, wp_isB, wp_opt, wp_back, back_ok, ofD, wipeQ, backQ, maskQ, atsLen, List.map_cons, List.map_nil, List.cons_append, List.nil_append, List.append_nil, List.take_succ_cons, List.take_zero, Nat.sub_self, Nat.reduceSub, Nat.reduceLT, Nat.reduceLeDiff, Nat.reduceAdd, Nat.reduceEqDiff, List.replicate_zero, List.replicate_succ, List.getElem?_cons_zero, List.getElem?_cons_succ, List.length_cons, List.length_nil, List.set_cons_zero, List.set_cons_succ, Bool.not_true, Bool.not_false, Bool.false_eq_true, if_true, if_false, reduceIte, reduceCtorEq, Option.map_some, Option.getD_some, Option.getD_none, Option.bind_some, Option.some.injEq, Nat.zero_add, isiW, muM, Int.cast_ofNat_Int, Int.ofNat_zero, Int.natCast_one, Int.reduceEq, Int.reduceLT, Int.reduceAdd, Int.reduceSub, decide_true, decide_false, es]
    exact ⟨fd, _, some x, rfl, h1.put ht hj, by omega, hf⟩
  · obtain ⟨fd, kvs, y, rfl, h1, h2, h3⟩ := hI
    rw [List.length_map, List.length_range] at h1
    simp -implicitDefEqProofs only [t_law_table_1, execsQ, execQ, evQ, evsQ, evoQ, evA, argOf, getAs, putAs, asgQ, asgsQ, bindQ, bind_ok, isB_ok, opt_ok, wp_bind, wp_ok, wp_isB, wp_opt, wp_back, back_ok, ofD, wipeQ, backQ, maskQ, atsLen, List.map_cons, List.map_nil, List.cons_append, List.nil_append, List.append_nil, List.take_succ_cons, List.take_zero, Nat.sub_self, Nat.reduceSub, Nat.reduceLT, Nat.reduceLeDiff, Nat.reduceAdd, Nat.reduceEqDiff, List.replicate_zero, List.replicate_succ, List.getElem?_cons_zero, List.getElem?_cons_succ, List.length_cons, List.length_nil, List.set_cons_zero, List.set_cons_succ, Bool.not_true, Bool.not_false, Bool.false_eq_true, if_true, if_false, reduceIte, reduceCtorEq, Option.map_some, Option.getD_some, Option.getD_none, Option.bind_some, Option.some.injEq, Nat.zero_add, isiW, muM, Int.cast_ofNat_Int, Int.ofNat_zero, Int.natCast_one, Int.reduceEq, Int.reduceLT, Int.reduceAdd, Int.reduceSub, decide_true, decide_false]
    exact hp _ _ ⟨h1.key, h1.nd, by have := h1.len; omega⟩ h3
end
end Pq
set_option Elab.async false
set_option linter.all false
set_option maxRecDepth 100000
set_option maxHeartbeats 2000000
/-! k01: any thing made of a key -/
namespace Pq
open PySem PySem.Spec PyProof.Rows L2 Pv
theorem upper_key {s : Str} (hs : KeyS s) : PyData.strOk (Txt.upper s) = true ∧ (Txt.upper s).length = s.length := by
  have hlow : ∀ c ∈ s.cps.toList, c < 128 := fun c hc => by
    obtain ⟨i, hi, rfl⟩ := List.mem_map.mp (hs.2.2 c hc)
    rw [List.mem_range] at hi
    omega
  have e := SX.upper_S (a := s.cps.toList) (by rw [List.all_eq_true]; intro c hc; exact decide_eq_true (hlow c hc))
  have es : SX.S s.cps.toList = s := by cases s; rfl
  rw [es] at e
  rw [e]
  refine ⟨strOk_mem.mpr fun c hc => ?_, by simp [SX.S, Str.length]⟩
  simp only [SX.S, List.toList_toArray] at hc
  obtain ⟨d, hd, rfl⟩ := List.mem_map.mp hc
  have := hlow d hd
  unfold up1
  split <;> omega
theorem upper_ok {s : Str} (hs : KeyS s) : miW .upper (.str s) [] = some (.str (Txt.upper s)) := by
  have h8 := hs.2.1
  simp only [miW]
  rw [if_pos ⟨by omega, (upper_key hs).1⟩]
theorem mul_9 {s : Str} (hs : KeyS s) : ∃ t : Str, binopW .Mult (.str s) (.int 9) = some (.str t) ∧ t.length ≤ 1000 := by
  have h8 := hs.2.1
  refine ⟨⟨(List.replicate (9 : Int).toNat s.cps.toList).flatten.toArray⟩, ?_, ?_⟩
  · simp only [binopW]
    rw [if_pos ⟨by decide, by decide, by omega⟩]
  · have hl : s.cps.toList.length = s.length := by simp [Str.length]
    show ((List.replicate 9 s.cps.toList).flatten.toArray).size ≤ 1000
    rw [List.size_toArray, List.length_flatten, List.map_replicate, List.sum_replicate_nat, hl]
    omega
theorem len_sp : (Str.ofString " ").length = 1 := by decide +kernel
theorem len_1 : (Str.ofString "1").length = 1 := by decide +kernel
theorem len_da : (Str.ofString "-").length = 1 := by decide +kernel
theorem signs13 : (Str.ofString "AaZz09 -_.{`~").length = 13 := by decide +kernel
theorem cut8 {s : Str} (h8 : s.length ≤ 8) {lo hi : Option Int} : (cutS s lo hi).length ≤ 8 := Nat.le_trans cut_le h8
section
variable {T : QTbl} {F k : Nat} {w : W} {s : Str} {ns : List Int} {fd : W} {P : W → QEnv → Prop}
theorem fit_str {s : Str} (h : s.length ≤ 1000) : fitW (.str s) = true := by simp only [fitW, decide_eq_true_eq]; omega
theorem law_any_ok (G : LGen1 T) (h : has T "_law_any" f_law_any) (hs : KeyS s) (hf : FeedOk ns fd) (hF : ns.length < F) (hp : ∀ d fd', fitW d = true → FeedOk ns fd' → P d [some fd', none]) : WP (callQ T F (k + 2) "_law_any" [fd, .str s]) P := by
  have h8 := hs.2.1
  have hle := hs.word.le
  refine wp_call h ⟨rfl, by decide, rfl⟩ ?_
  simp -implicitDefEqProofs only [f_law_any, b_law_any, execsQ, execQ, evQ, evsQ, evoQ, evA, argOf, getAs, putAs, asgQ, asgsQ, bindQ, bind_ok, isB_ok, opt_ok, wp_bind, wp_ok, wp_isB, wp_opt, wp_back, back_ok, ofD, wipeQ, backQ, maskQ, atsLen, List.map_cons, List.map_nil, List.cons_append, List.nil_append, List.append_nil, List.take_succ_cons, List.take_zero, Nat.sub_self, Nat.reduceSub, Nat.reduceLT, Nat.reduceLeDiff, Nat.reduceAdd, Nat.reduceEqDiff, List.replicate_zero, List.replicate_succ, List.getElem?_cons_zero, List.getElem?_cons_succ, List.length_cons, List.length_nil, List.set_cons_zero, List.set_cons_succ, Bool.not_true, Bool.not_false, Bool.false_eq_true, if_true, if_false, reduceIte, reduceCtorEq, Option.map_some, Option.getD_some, Option.getD_none, Option.bind_some, Option.some.injEq, Nat.zero_add, isiW, muM, Int.cast_ofNat_Int, Int.ofNat_zero, Int.natCast_one, Int.reduceEq, Int.reduceLT, Int.reduceAdd, Int.reduceSub, decide_true, decide_false, pow_20, w_lt, w_gt, w_le, w_ge, w_lts, w_gts, w_les, w_ges, w_eq, w_ne, w_eqb, w_neb, w_eqs, w_nes, w_add, w_sub, w_isN, w_notN, Int.reduceNeg, G.draw, f_law_draw, if_pos (sz_small (show 8 ≤ 10000000 by decide))]
  refine draw_ok G.draw hf hF 8 rfl (by decide) (by decide) fun v fd hv hf => ?_
  obtain ⟨x, hx, e⟩ := pick (xs := [.int 100000000000000000000, .int 99999999999999999999, .int (-99999999999999999999), .int (-100000000000000000000), .int 0, .bl true, .bl false, .non]) (v := v) hv
  have fx : fitW x = true := by
    simp only [List.mem_cons, List.not_mem_nil, or_false] at hx
    rcases hx with rfl | rfl | rfl | rfl | rfl | rfl | rfl | rfl <;> rfl
  have e1 : (s.length : Int) + 1 = ((s.length + 1 : Nat) : Int) := by omega
  simp -implicitDefEqProofs only [e, t_law_any_6, execsQ, execQ, evQ, evsQ, evoQ, evA, argOf, getAs, putAs, asgQ, asgsQ, bindQ, bind_ok, isB_ok, opt_ok, wp_bind, wp_ok, wp_isB, wp_opt, wp_back, back_ok, ofD, wipeQ, backQ, maskQ, atsLen, List.map_cons, List.map_nil, List.cons_append, List.nil_append, List.append_nil, List.take_succ_cons, List.take_zero, Nat.sub_self, Nat.reduceSub, Nat.reduceLT, Nat.reduceLeDiff, Nat.reduceAdd, Nat.reduceEqDiff, List.replicate_zero, List.replicate_succ, List.getElem?_cons_zero, List.getElem?_cons_succ, List.length_cons, List.length_nil, List.set_cons_zero, List.set_cons_succ, Bool.not_true, Bool.not_false, Bool.false_eq_true, if_true, if_false, reduceIte, reduceCtorEq, Option.map_some, Option.getD_some, Option.getD_none, Option.bind_some, Option.some.injEq, Nat.zero_add, isiW, muM, Int.cast_ofNat_Int, Int.ofNat_zero, Int.natCast_one, Int.reduceEq, Int.reduceLT, Int.reduceAdd, Int.reduceSub, decide_true, decide_false, w_lt, w_gt, w_le, w_ge, w_lts, w_gts, w_les, w_ges, w_eq, w_ne, w_eqb, w_neb, w_eqs, w_nes, w_add, w_sub, w_isN, w_notN, len_str hle, e1, G.draw, f_law_draw]
  refine draw_ok G.draw hf hF (s.length + 1) rfl (by omega) (by omega) fun v fd hv hf => ?_
  simp -implicitDefEqProofs only [t_law_any_5, execsQ, execQ, evQ, evsQ, evoQ, evA, argOf, getAs, putAs, asgQ, asgsQ, bindQ, bind_ok, isB_ok, opt_ok, wp_bind, wp_ok, wp_isB, wp_opt, wp_back, back_ok, ofD, wipeQ, backQ, maskQ, atsLen, List.map_cons, List.map_nil, List.cons_append, List.nil_append, List.append_nil, List.take_succ_cons, List.take_zero, Nat.sub_self, Nat.reduceSub, Nat.reduceLT, Nat.reduceLeDiff, Nat.reduceAdd, Nat.reduceEqDiff, List.replicate_zero, List.replicate_succ, List.getElem?_cons_zero, List.getElem?_cons_succ, List.length_cons, List.length_nil, List.set_cons_zero, List.set_cons_succ, Bool.not_true, Bool.not_false, Bool.false_eq_true, if_true, if_false, reduceIte, reduceCtorEq, Option.map_some, Option.getD_some, Option.getD_none, Option.bind_some, Option.some.injEq, Nat.zero_add, isiW, muM, Int.cast_ofNat_Int, Int.ofNat_zero, Int.natCast_one, Int.reduceEq, Int.reduceLT, Int.reduceAdd, Int.reduceSub, decide_true, decide_false, w_lt, w_gt, w_le, w_ge, w_lts, w_gts, w_les, w_ges, w_eq, w_ne, w_eqb, w_neb, w_eqs, w_nes, w_add, w_sub, w_isN, w_notN, G.draw, f_law_draw]
  refine draw_ok G.draw hf hF 13 rfl (by decide) (by decide) fun u fd hu hf => ?_
  obtain ⟨c, hc, ec⟩ := pick_sign (z := Str.ofString "AaZz09 -_.{`~") (v := u) (by rw [signs13]; exact sz_small (by decide)) (by rw [signs13]; exact hu)
  obtain ⟨t, et, ht⟩ := mul_9 hs
  have adds : ∀ a b : Str, a.length ≤ 1000 → b.length ≤ 1000 → binopW .Add (.str a) (.str b) = some (.str (a ++ b)) := fun a b ha hb => w_adds (sz_small (by omega))
  have c1 := fun lo hi => @cut8 s h8 lo hi
  have c2 : ∀ lo hi, (cutS s lo hi).length ≤ 1000 := fun lo hi => Nat.le_trans (c1 lo hi) (by decide)
  have lst1 : biW .list [.str s] = some (.lst (s.cps.toList.map wsign)) := by simp only [biW, if_pos hle]
  have s1 : ∀ c, (⟨#[c]⟩ : Str).length ≤ 1000 := fun c => by rw [wsign_len]; decide
  simp -implicitDefEqProofs only [ec, t_law_any_4, t_law_any_3, t_law_any_2, execsQ, execQ, evQ, evsQ, evoQ, evA, argOf, getAs, putAs, asgQ, asgsQ, bindQ, bind_ok, isB_ok, opt_ok, wp_bind, wp_ok, wp_isB, wp_opt, wp_back, back_ok, ofD, wipeQ, backQ, maskQ, atsLen, List.map_cons, List.map_nil, List.cons_append, List.nil_append, List.append_nil, List.take_succ_cons, List.take_zero, Nat.sub_self, Nat.reduceSub, Nat.reduceLT, Nat.reduceLeDiff, Nat.reduceAdd, Nat.reduceEqDiff, List.replicate_zero, List.replicate_succ, List.getElem?_cons_zero, List.getElem?_cons_succ, List.length_cons, List.length_nil, List.set_cons_zero, List.set_cons_succ, Bool.not_true, Bool.not_false, Bool.false_eq_true, if_true, if_false, reduceIte, reduceCtorEq, Option.map_some, Option.getD_some, Option.getD_none, Option.bind_some, Option.some.injEq, Nat.zero_add, isiW, muM, Int.cast_ofNat_Int, Int.ofNat_zero, Int.natCast_one, Int.reduceEq, Int.reduceLT, Int.reduceAdd, Int.reduceSub, decide_true, decide_false, w_lt, w_gt, w_le, w_ge, w_lts, w_gts, w_les, w_ges, w_eq, w_ne, w_eqb, w_neb, w_eqs, w_nes, w_add, w_sub, w_isN, w_notN, upper_ok hs, et, lst1, slc_str hle, adds _ _ (show s.length ≤ 1000 by omega) (show (Str.ofString " ").length ≤ 1000 by rw [len_sp]; decide), adds _ _ (show (Str.ofString " ").length ≤ 1000 by rw [len_sp]; decide) (show s.length ≤ 1000 by omega), adds _ _ (show s.length ≤ 1000 by omega) (show (Str.ofString "1").length ≤ 1000 by rw [len_1]; decide), adds _ _ (c2 none (some 1)) (show (Str.ofString "-").length ≤ 1000 by rw [len_da]; decide), wsign,
    adds _ _ (show (cutS s none (some 1) ++ Str.ofString "-").length ≤ 1000 by rw [app_len, len_da]; have := c1 none (some 1); omega) (c2 (some 1) none), adds _ _ (c2 none (some (v : Int))) (s1 c), adds _ _ (show (cutS s none (some (v : Int)) ++ ⟨#[c]⟩).length ≤ 1000 by rw [app_len, wsign_len]; have := c1 none (some (v : Int)); omega) (c2 (some (v : Int)) none), adds _ _ (show (cutS s none (some (v : Int)) ++ ⟨#[c]⟩).length ≤ 1000 by rw [app_len, wsign_len]; have := c1 none (some (v : Int)); omega) (c2 (some ((v : Int) + 1)) none), adds _ _ (c2 none (some (v : Int))) (c2 (some ((v : Int) + 1)) none),
    if_pos (sz_small (show 10 ≤ 10000000 by decide)), if_pos (sz_small (show 5 ≤ 10000000 by decide)), if_pos (sz_small (show 2 ≤ 10000000 by decide)), if_pos (sz_small (show 1 ≤ 10000000 by decide)), w_addl (x := [_, _, _, _, _, _, _, _, _, _]) (y := [_, _, _, _, _]) (sz_small (show 10 + 5 ≤ 10000000 by decide)), w_addl (x := [_, _, _, _, _, _, _, _, _, _, _, _, _, _, _]) (y := [_, _]) (sz_small (show 15 + 2 ≤ 10000000 by decide))]
  simp -implicitDefEqProofs only [t_law_any_1, execsQ, execQ, evQ, evsQ, evoQ, evA, argOf, getAs, putAs, asgQ, asgsQ, bindQ, bind_ok, isB_ok, opt_ok, wp_bind, wp_ok, wp_isB, wp_opt, wp_back, back_ok, ofD, wipeQ, backQ, maskQ, atsLen, List.map_cons, List.map_nil, List.cons_append, List.nil_append, List.append_nil, List.take_succ_cons, List.take_zero, Nat.sub_self, Nat.reduceSub, Nat.reduceLT, Nat.reduceLeDiff, Nat.reduceAdd, Nat.reduceEqDiff, List.replicate_zero, List.replicate_succ, List.getElem?_cons_zero, List.getElem?_cons_succ, List.length_cons, List.length_nil, List.set_cons_zero, List.set_cons_succ, Bool.not_true, Bool.not_false, Bool.false_eq_true, if_true, if_false, reduceIte, reduceCtorEq, Option.map_some, Option.getD_some, Option.getD_none, Option.bind_some, Option.some.injEq, Nat.zero_add, isiW, muM, Int.cast_ofNat_Int, Int.ofNat_zero, Int.natCast_one, Int.reduceEq, Int.reduceLT, Int.reduceAdd, Int.reduceSub, decide_true, decide_false, G.draw, f_law_draw]
  refine draw_ok G.draw hf hF 17 rfl (by decide) (by decide) fun u fd hu hf => ?_
  obtain ⟨d, hd, e⟩ := pick (xs := [.str s, .str (Txt.upper s), .str (s ++ Str.ofString " "), .str (Str.ofString " " ++ s), .str (s ++ Str.ofString "1"), .str (cutS s (some 1) none), .str t, .lst [.str s], .tup [.str s], x, x, x, .str (cutS s none (some 1) ++ Str.ofString "-" ++ cutS s (some 1) none), .lst (s.cps.toList.map wsign), .str (cutS s none (some (v : Int)) ++ ⟨#[c]⟩ ++ cutS s (some (v : Int)) none), .str (cutS s none (some (v : Int)) ++ ⟨#[c]⟩ ++ cutS s (some ((v : Int) + 1)) none), .str (cutS s none (some (v : Int)) ++ cutS s (some ((v : Int) + 1)) none)]) (v := u) hu
  have fd' : fitW d = true := by
    have d1 := c1 none (some 1)
    have d2 := c1 (some 1) none
    have d3 := c1 none (some (v : Int))
    have d4 := c1 (some (v : Int)) none
    have d5 := c1 (some ((v : Int) + 1)) none
    have fs : fitW (.str s) = true := hs.fit
    simp only [List.mem_cons, List.not_mem_nil, or_false] at hd
    rcases hd with rfl | rfl | rfl | rfl | rfl | rfl | rfl | rfl | rfl | rfl | rfl | rfl | rfl | rfl | rfl | rfl | rfl
    · exact fs
    · exact fit_str (by rw [(upper_key hs).2]; omega)
    · exact fit_str (by rw [app_len, len_sp]; omega)
    · exact fit_str (by rw [app_len, len_sp]; omega)
    · exact fit_str (by rw [app_len, len_1]; omega)
    · exact fit_str (by omega)
    · exact fit_str ht
    · simp only [fitW, fitWs] at fs ⊢; simp [fs]
    · simp only [fitW, fitWs] at fs ⊢; simp [fs]
    · exact fx
    · exact fx
    · exact fx
    · exact fit_str (by rw [app_len, app_len, len_da]; omega)
    · have hl : s.cps.toList.length = s.length := by simp [Str.length]
      simp only [fitW, Bool.and_eq_true, decide_eq_true_eq, fitWs_iff, List.length_map, hl]
      refine ⟨by omega, fun w hw => ?_⟩
      obtain ⟨c, _, rfl⟩ := List.mem_map.mp hw
      exact fit_str (s1 c)
    · exact fit_str (by rw [app_len, app_len, wsign_len]; omega)
    · exact fit_str (by rw [app_len, app_len, wsign_len]; omega)
    · exact fit_str (by rw [app_len]; omega)
  simp -implicitDefEqProofs only [e, execsQ, execQ, evQ, evsQ, evoQ, evA, argOf, getAs, putAs, asgQ, asgsQ, bindQ, bind_ok, isB_ok, opt_ok, wp_bind, wp_ok, wp_isB, wp_opt, wp_back, back_ok, ofD, wipeQ, backQ, maskQ, atsLen, List.map_cons, List.map_nil, List.cons_append, List.nil_append, List.append_nil, List.take_succ_cons, List.take_zero, Nat.sub_self, Nat.reduceSub, Nat.reduceLT, Nat.reduceLeDiff, Nat.reduceAdd, Nat.reduceEqDiff, List.replicate_zero, List.replicate_succ, List.getElem?_cons_zero, List.getElem?_cons_succ, List.length_cons, List.length_nil, List.set_cons_zero, List.set_cons_succ, Bool.not_true, Bool.not_false, Bool.false_eq_true, if_true, if_false, reduceIte, reduceCtorEq, Option.map_some, Option.getD_some, Option.getD_none, Option.bind_some, Option.some.injEq, Nat.zero_add, isiW, muM, Int.cast_ofNat_Int, Int.ofNat_zero, Int.natCast_one, Int.reduceEq, Int.reduceLT, Int.reduceAdd, Int.reduceSub, decide_true, decide_false]
  exact hp _ _ fd' hf
end
end Pq
set_option Elab.async false
set_option linter.all false
set_option maxRecDepth 100000
set_option maxHeartbeats 1000000
/-! what is told of a value as a text -/
namespace Pq
open PySem PySem.Spec PyProof.Rows L2 Pv
theorem okS_mem {s : Str} : PyData.strOk s = true ↔ ∀ c ∈ s.cps.toList, c < 0x110000 := strOk_mem
theorem okS_of (s : String) : PyData.strOk (Str.ofString s) = true := by
  rw [okS_mem, Str.ofString_eq_toList]
  intro c hc
  simp only [List.toList_toArray] at hc
  obtain ⟨d, _, rfl⟩ := List.mem_map.mp hc
  rcases d.valid with h | h
  · show d.val.toNat < _
    have : d.val.toNat < 0xd800 := h
    omega
  · show d.val.toNat < _
    have : d.val.toNat < 0x110000 := h.2
    omega
theorem okS_app {a b : Str} (h : PyData.strOk a = true) (g : PyData.strOk b = true) : PyData.strOk (a ++ b) = true := strOk_app h g
theorem okS_join {sep : Str} (hs : PyData.strOk sep = true) : ∀ {ts : List Str}, (∀ t ∈ ts, PyData.strOk t = true) → PyData.strOk (Str.join sep ts) = true
  | [], _ => by show PyData.strOk Str.empty = true; decide +kernel
  | [x], h => h x (by simp)
  | x :: y :: r, h => okS_app (okS_app (h x (by simp)) hs) (okS_join hs fun t ht => h t (by simp [ht]))
theorem okS_from : ∀ {ts : List Str} {k : Nat} {acc : Str}, (∀ t ∈ ts, PyData.strOk t = true) → PyData.strOk acc = true → PyData.strOk (textFrom k acc ts) = true
  | [], k, acc, _, h => h
  | t :: r, k, acc, ht, h => by
    show PyData.strOk (textFrom (k + 1) _ r) = true
    exact okS_from (fun x hx => ht x (by simp [hx])) (okS_app (okS_app h (okS_of _)) (ht t (by simp)))
theorem okS_repr {x : Str} (h : PyData.strOk x = true) : PyData.strOk (reprText x) = true := by
  have hq : reprQuote x < 0x110000 := by unfold reprQuote; split <;> decide
  have hx : ∀ n w : Nat, ∀ c ∈ List.replicate (w - ((Nat.toDigits 16 n).map Char.toNat).length) 48 ++ (Nat.toDigits 16 n).map Char.toNat, c < 0x110000 := fun n w c hc => by
    rcases List.mem_append.mp hc with hc | hc
    · rw [List.eq_of_mem_replicate hc]; decide
    · obtain ⟨d, _, rfl⟩ := List.mem_map.mp hc
      rcases d.valid with h | h
      · have : d.val.toNat < 0xd800 := h
        show d.val.toNat < _; omega
      · exact h.2
  have ch : ∀ q c, q < 0x110000 → c < 0x110000 → ∀ d ∈ Builtin.Str.reprChar q c, d < 0x110000 := fun q c hq hc d hd => by
    unfold Builtin.Str.reprChar at hd
    dsimp only at hd
    repeat' split at hd
    all_goals (try simp only [List.mem_cons, List.not_mem_nil, or_false, List.cons_append, List.nil_append] at hd)
    all_goals first
      | omega
      | (rcases hd with rfl | rfl <;> omega)
      | (rcases hd with rfl | rfl | hd <;> first | decide | exact hx _ _ d hd)
  rw [okS_mem] at h ⊢
  unfold reprText
  have go : ∀ (l : List Nat) (acc : Array Nat), (∀ c ∈ l, c < 0x110000) → (∀ c ∈ acc.toList, c < 0x110000) → ∀ c ∈ (l.foldl (fun out c => out ++ (Builtin.Str.reprChar (reprQuote x) c).toArray) acc).toList, c < 0x110000 := by
    intro l
    induction l with
    | nil => intro acc _ ha; exact ha
    | cons c l ih =>
      intro acc hl ha
      rw [List.foldl_cons]
      refine ih _ (fun d hd => hl d (by simp [hd])) fun d hd => ?_
      simp only [Array.toList_append, List.toList_toArray, List.mem_append] at hd
      rcases hd with hd | hd
      · exact ha d hd
      · exact ch _ c hq (hl c (by simp)) d hd
  intro c hc
  simp only [Array.toList_push, List.mem_append, List.mem_singleton] at hc
  rcases hc with hc | rfl
  · rw [← Array.foldl_toList] at hc
    exact go _ _ h (by intro d hd; simp at hd; subst hd; exact hq) c hc
  · exact hq
mutual
/-- numbers and texts of bounded kind -/
def niceW : W → Bool
  | .int i => decide (i.natAbs < 10 ^ 24)
  | .str s => PyData.strOk s
  | .tup ws => niceWs ws
  | .fzl ws => niceWs ws
  | .lst ws => niceWs ws
  | _ => true
def niceWs : List W → Bool
  | [] => true
  | w :: ws => niceW w && niceWs ws
end
theorem niceWs_iff : ∀ {ws : List W}, niceWs ws = true ↔ ∀ w ∈ ws, niceW w = true
  | [] => by simp [niceWs]
  | w :: ws => by simp only [niceWs, Bool.and_eq_true, niceWs_iff, List.mem_cons, forall_eq_or_imp]
mutual
/-- how much there is to tell -/
def wtW : W → Nat
  | .int _ => 80
  | .str s => s.length
  | .tup ws => wtWs ws
  | .fzl ws => wtWs ws
  | .lst ws => wtWs ws
  | _ => 0
def wtWs : List W → Nat
  | [] => 0
  | w :: ws => wtW w + 1 + wtWs ws
end
theorem wtWs_le {n : Nat} : ∀ {ws : List W}, (∀ w ∈ ws, wtW w ≤ n) → wtWs ws ≤ (n + 1) * ws.length
  | [], _ => Nat.zero_le _
  | w :: ws, h => by
    simp only [wtWs, List.length_cons]
    have h1 := h w (by simp)
    have h2 := wtWs_le (ws := ws) (n := n) fun x hx => h x (by simp [hx])
    rw [Nat.mul_succ]
    omega
theorem wtWs_app : ∀ {a b : List W}, wtWs (a ++ b) = wtWs a + wtWs b
  | [], b => by simp [wtWs]
  | w :: a, b => by simp only [List.cons_append, wtWs, wtWs_app (a := a) (b := b)]; omega
theorem log_lt {n : Nat} (h : n < 10 ^ 24) : n.log2 < 80 := by
  by_cases h0 : n = 0
  · subst h0; decide
  · rw [Nat.log2_lt h0]
    have : (10 : Nat) ^ 24 < 2 ^ 80 := by decide
    omega
theorem int_short {i : Int} (h : i.natAbs < 10 ^ 24) : (PyData.shown (.int i)).length ≤ 25 := by
  simp only [PyData.shown]
  by_cases h0 : 0 ≤ i
  · have := toString_length_le h0 (k := 24) (by decide) (by omega)
    show (Str.ofString (toString i)).length ≤ 25
    omega
  · have e : (toString i : String) = "-" ++ toString (-i) := by
      rw [Int.toString_eq_repr, Int.repr_eq_if, if_neg (by omega), Int.toString_eq_repr, Int.repr_eq_if, if_pos (by omega)]
    show (Str.ofString (toString i)).length ≤ 25
    rw [e, PyProof.Rows.ofString_length, String.toList_append, List.length_append, ← PyProof.Rows.ofString_length (toString (-i))]
    have := toString_length_le (v := -i) (by omega) (k := 24) (by decide) (by omega)
    have h1 : ("-" : String).toList.length = 1 := by decide
    omega
mutual
theorem nice_short : ∀ (w : W), niceW w = true → (pdT w).leavesShort 25 = true ∧ (pdT w).showable = true ∧ PyData.strOk (pdT w).shown = true ∧ (pdT w).weight ≤ wtW w
  | .non, _ => ⟨by simp [pdT, PyData.leavesShort], by simp [pdT, PyData.showable], by simp only [pdT, PyData.shown]; exact okS_of _, by simp [pdT, PyData.weight]⟩
  | .bl b, _ => ⟨by simp [pdT, PyData.leavesShort], by simp [pdT, PyData.showable], by simp only [pdT, PyData.shown]; split <;> exact okS_of _, by simp [pdT, PyData.weight]⟩
  | .int i, h => by
    simp only [niceW, decide_eq_true_eq] at h
    have hl := log_lt h
    refine ⟨by simp only [pdT, PyData.leavesShort, decide_eq_true_eq]; exact int_short h, by simp only [pdT, PyData.showable, decide_eq_true_eq]; omega, by simp only [pdT, PyData.shown]; exact okS_of _, ?_⟩
    simp only [pdT, PyData.weight, wtW]
    split <;> omega
  | .str s, h => by
    simp only [niceW] at h
    refine ⟨?_, by simp [pdT, PyData.showable], by simp only [pdT, PyData.shown]; exact okS_repr h, by simp [pdT, PyData.weight, wtW, Str.length]⟩
    simp only [pdT, PyData.leavesShort, List.all_eq_true, decide_eq_true_eq]
    intro c hc
    have := okS_mem.mp h c hc
    have e : (16 : Nat) ^ 8 = 4294967296 := by decide
    omega
  | .tup ws, h => by
    simp only [niceW] at h
    obtain ⟨h1, h2, h3, h4⟩ := nice_shorts ws h
    refine ⟨by simpa only [pdT, PyData.leavesShort] using h1, by simpa only [pdT, PyData.showable] using h2, ?_, by simpa only [pdT, PyData.weight, wtW] using h4⟩
    simp only [pdT, PyData.shown, tupleText]
    refine okS_app (okS_app (okS_of _) (okS_join (okS_of _) h3)) (okS_of _)
  | .fzl ws, h => by
    simp only [niceW] at h
    obtain ⟨h1, h2, h3, h4⟩ := nice_shorts ws h
    refine ⟨by simpa only [pdT, PyData.leavesShort] using h1, by simpa only [pdT, PyData.showable] using h2, ?_, by simpa only [pdT, PyData.weight, wtW] using h4⟩
    simp only [pdT, PyData.shown, listText]
    exact okS_app (okS_from h3 (okS_of _)) (okS_of _)
  | .lst ws, h => by
    simp only [niceW] at h
    obtain ⟨h1, h2, h3, h4⟩ := nice_shorts ws h
    refine ⟨by simpa only [pdT, PyData.leavesShort] using h1, by simpa only [pdT, PyData.showable] using h2, ?_, by simpa only [pdT, PyData.weight, wtW] using h4⟩
    simp only [pdT, PyData.shown, listText]
    exact okS_app (okS_from h3 (okS_of _)) (okS_of _)
  | .dic _, _ => ⟨by simp [pdT, PyData.leavesShort], by simp [pdT, PyData.showable], by simp only [pdT, PyData.shown]; exact okS_of _, by simp [pdT, PyData.weight]⟩
theorem nice_shorts : ∀ (ws : List W), niceWs ws = true → PyData.leavesShortAll 25 (pdTs ws) = true ∧ PyData.showableAll (pdTs ws) = true ∧ (∀ t ∈ PyData.shownAll (pdTs ws), PyData.strOk t = true) ∧ PyData.weightAll (pdTs ws) ≤ wtWs ws
  | [], _ => ⟨by simp [pdTs, PyData.leavesShortAll], by simp [pdTs, PyData.showableAll], by simp [pdTs, PyData.shownAll], by simp [pdTs, PyData.weightAll]⟩
  | w :: ws, h => by
    simp only [niceWs, Bool.and_eq_true] at h
    obtain ⟨a1, a2, a3, a4⟩ := nice_short w h.1
    obtain ⟨b1, b2, b3, b4⟩ := nice_shorts ws h.2
    refine ⟨by simp only [pdTs, PyData.leavesShortAll, a1, b1, Bool.and_self], by simp only [pdTs, PyData.showableAll, a2, b2, Bool.and_self], ?_, by simp only [pdTs, PyData.weightAll, wtWs]; omega⟩
    intro t ht
    simp only [pdTs, PyData.shownAll, List.mem_cons] at ht
    rcases ht with rfl | ht
    · exact a3
    · exact b3 t ht
end
theorem fitP_of {w : W} (h : niceW w = true) (hw : wtW w ≤ 300000) : fitP (pdT w) = true := by
  obtain ⟨h1, h2, h3, h4⟩ := nice_short w h
  have h5 := PyData.shown_le 25 (by decide) (pdT w) h1
  simp only [fitP, h2, h3, Bool.and_true, Bool.true_and, decide_eq_true_eq]
  have : (25 + 2) * (pdT w).weight ≤ 27 * 300000 := Nat.mul_le_mul (by decide) (by omega)
  omega
/-- repr of a value of bounded kind -/
theorem repr_nice {w : W} (hd : dep w ≤ 60) (h : niceW w = true) (hw : wtW w ≤ 300000) : biW .repr [w] = some (.str (pdT w).shown) := repr_of hd (fitP_of h hw)
end Pq
set_option Elab.async false
set_option linter.all false
set_option maxRecDepth 100000
set_option maxHeartbeats 4000000
/-! k01: the law -/
namespace Pq
open PySem PySem.Spec PyProof.Rows L2 Pv
structure LK01 (T : QTbl) : Prop where
  keys : LKeys T
  read : LRead1 T
  gen : LGen1 T
  digits : has T "_law_digits" f_law_digits
  any : has T "_law_any" f_law_any
  law : has T "law" f_law_k01
/-- a loop that keeps all but its name -/
theorem for_keep {body : W → QEnv → QR QO} {P : QO → QEnv → Prop} (E : Option W → QEnv) : ∀ (l : List W) (y : Option W), (∀ c ∈ l, ∀ y, WP (body c (E y)) fun o ρ' => o = .nx ∧ ρ' = E (some c)) → (∀ y, P .nx (E y)) → WP (forQ body l (E y)) P
  | [], y, _, h => by simp only [forQ, wp_ok]; exact h y
  | c :: l, y, hb, h => by
    simp only [forQ, wp_bind]
    refine (hb c (by simp) y).mono fun o ρ' q => ?_
    obtain ⟨rfl, rfl⟩ := q
    exact for_keep E l _ (fun c hc n => hb c (by simp [hc]) n) h
theorem for_slot {body : W → QEnv → QR QO} {P : QO → QEnv → Prop} (i : Nat) {l : List W} {ρ : QEnv} (hb : ∀ c ∈ l, ∀ y, WP (body c (ρ.set i y)) fun o ρ' => o = .nx ∧ ρ' = ρ.set i (some c)) (h : ∀ y, P .nx (ρ.set i y)) : WP (forQ body l ρ) P := by
  have e : ρ = ρ.set i ((ρ[i]?).getD none) := by
    by_cases hi : i < ρ.length
    · rw [List.getElem?_eq_getElem hi]; simp
    · rw [List.set_eq_of_length_le (by omega)]
  have := for_keep (fun y => ρ.set i y) l ((ρ[i]?).getD none) hb h
  rwa [← e] at this
def manyW : List W := (List.range 201).map fun k => .tup [.str ⟨#[97 + k / 26, 97 + k % 26]⟩, .int (k : Int)]
theorem many_no : thingsB (.tup manyW) = false := by decide +kernel
theorem many_yes : thingsB (.tup (manyW.drop 1)) = true := by decide +kernel
theorem many_fit : fitW (.tup manyW) = true := by decide +kernel
theorem many_fit1 : fitW (.tup (manyW.drop 1)) = true := by decide +kernel
theorem dep_digs (n : Nat) : dep (.tup (digs n)) ≤ 60 := by simp [digs, dep, deps]
theorem nice_nat {n : Nat} (h : n < 10 ^ 24) : niceW (.int (n : Int)) = true := by simp only [niceW, decide_eq_true_eq]; omega
theorem nice_digs (n : Nat) : niceW (.tup (digs n)) = true := by
  have h : ∀ m : Nat, m % 4 < 10 ^ 24 := fun m => by omega
  simp only [digs, niceW, niceWs, Bool.and_true, Bool.and_eq_true, decide_eq_true_eq]
  refine ⟨?_, ?_, ?_, ?_, ?_⟩ <;> omega
theorem repr_digs (n : Nat) : biW .repr [.tup (digs n)] = some (.str (pdT (.tup (digs n))).shown) := repr_nice (dep_digs n) (nice_digs n) (by simp [digs, wtW, wtWs])
theorem repr_num {n : Nat} (h : n < 10 ^ 24) : biW .repr [.int (n : Int)] = some (.str (pdT (.int (n : Int))).shown) := repr_nice (by simp [dep]) (nice_nat h) (by simp [wtW])
theorem eq_digs {m n : Nat} : cmpopW .Eq (.tup (digs m)) (.tup (digs n)) = some (decide (m % 1024 = n % 1024)) := by
  simp only [cmpopW]
  rw [eqW_pd (dep_digs m) (dep_digs n)]
  simp only [digs, pdT, pdTs, PyData.eqv, PyData.eqvAll, Option.some.injEq]
  rw [Bool.eq_iff_iff]
  simp
  omega
theorem thing_fit {s : Str} {i : Int} (h : KeyS s) : fitW (.tup [.str s, .int i]) = true := by
  have := h.fit
  simp only [fitW] at this
  simp [fitW, fitWs, this]
theorem fit_tup {ws : List W} (hl : ws.length ≤ 1000) (h : ∀ w ∈ ws, fitW w = true) : fitW (.tup ws) = true := by
  simp only [fitW, Bool.and_eq_true, decide_eq_true_eq, fitWs_iff]
  exact ⟨by omega, h⟩
theorem fit_lst {ws : List W} (hl : ws.length ≤ 1000) (h : ∀ w ∈ ws, fitW w = true) : fitW (.lst ws) = true := by
  simp only [fitW, Bool.and_eq_true, decide_eq_true_eq, fitWs_iff]
  exact ⟨by omega, h⟩
theorem cutD_mem {α : Type} {xs : List α} {lo hi : Option Int} {x : α} (h : x ∈ Pv.cutD xs lo hi) : x ∈ xs := List.mem_of_mem_drop (List.mem_of_mem_take h)
theorem cutD_len {α : Type} {xs : List α} {lo hi : Option Int} : (Pv.cutD xs lo hi).length ≤ xs.length := by
  unfold Pv.cutD
  rw [List.length_take, List.length_drop]
  omega
theorem dget_mem {kvs : List (Key × W)} {k : Key} (h : k ∈ kvs.map (·.1)) : ∃ w, (k, w) ∈ kvs ∧ dget kvs k = some w := by
  induction kvs with
  | nil => simp at h
  | cons p kvs ih =>
    obtain ⟨k', w⟩ := p
    unfold dget at ih ⊢
    by_cases e : k' = k
    · subst e
      exact ⟨w, by simp, by simp [List.find?_cons]⟩
    · simp only [List.map_cons, List.mem_cons] at h
      obtain ⟨w', h1, h2⟩ := ih (h.resolve_left (Ne.symm e))
      exact ⟨w', by simp [h1], by simp only [List.find?_cons, e, decide_false]; exact h2⟩
section
variable {T : QTbl} {F k : Nat} {w : W} {s : Str} {ns : List Int} {fd : W}
theorem is_told (L : LK01 T) (b : Bool) : callQ T F (k + 1) "_law_is_told" [.bl b, .bl b] = .ok (.bl true) [none, none] := by
  rw [law_is_told_ok L.read.is_told, decide_eq_true rfl]
/-- the things of a table, sorted -/
theorem sorted_things {kvs : List (Key × W)} {n : Nat} (h : TabOk kvs n) (hn : n < 64) : ∃ ss : List Str, biW .sorted [.dic kvs] = some (.lst (ss.map .str)) ∧ ss.length = kvs.length ∧ ∀ s ∈ ss, KeyS s ∧ ∃ i, subW (.dic kvs) (.str s) = some (.int i) := by
  have hk : ∃ ts : List Str, (kvs.map fun p => wkey p.1) = ts.map .str ∧ ∀ t ∈ ts, Sum.inr t ∈ kvs.map (·.1) := by
    have := h.key
    clear h
    induction kvs with
    | nil => exact ⟨[], rfl, by simp⟩
    | cons p kvs ih =>
      obtain ⟨ts, e, m⟩ := ih fun q hq => this q (by simp [hq])
      obtain ⟨s, i, rfl, _, _⟩ := this p (by simp)
      refine ⟨s :: ts, by simp only [List.map_cons, e]; rfl, fun t ht => ?_⟩
      rcases List.mem_cons.mp ht with rfl | ht
      · simp
      · simp only [List.map_cons, List.mem_cons]; exact .inr (m t ht)
  obtain ⟨ts, e, m⟩ := hk
  have el : ts.length = kvs.length := by rw [← List.length_map (f := W.str), ← e, List.length_map]
  refine ⟨ts.mergeSort leS, ?_, by rw [List.length_mergeSort, el], fun s hs => ?_⟩
  · simp only [biW]
    rw [if_pos (by have := h.len; omega), e]
    simp only [sortW, strs_map, Option.map_some]
  · rw [List.mem_mergeSort] at hs
    obtain ⟨w, h1, h2⟩ := dget_mem (m s hs)
    obtain ⟨s', i, e', hk, _⟩ := h.key _ h1
    cases e'
    exact ⟨hk, i, by simp only [subW, keyW, Option.bind_some, h2]⟩
variable {a0 a2 a3 a4 a5 a6 a7 a8 a9 a10 a11 a12 a13 a14 a15 a16 a17 a18 a19 : Option W} {P : QO → QEnv → Prop}
theorem part2 (L : LK01 T) (hs : KeyS s) (hf : FeedOk ns fd) (hF : ns.length < F) (hp : ∀ fd a10 a11 a12 a13 a14 a15 a16, FeedOk ns fd → P .nx [a0, some fd, a2, a3, a4, some (.str s), a6, a7, a8, a9, a10, a11, a12, a13, a14, a15, a16, a17, a18, a19]) :
    WP (execsQ (callQ T F (k + 4)) T F t_law_k01_8 [a0, some fd, a2, a3, a4, some (.str s), a6, a7, a8, a9, a10, a11, a12, a13, a14, a15, a16, a17, a18, a19]) P := by
  simp -implicitDefEqProofs only [t_law_k01_8, execsQ, execQ, evQ, evsQ, evoQ, evA, argOf, getAs, putAs, asgQ, asgsQ, bindQ, bind_ok, isB_ok, opt_ok, wp_bind, wp_ok, wp_isB, wp_opt, wp_back, back_ok, ofD, wipeQ, backQ, maskQ, atsLen, List.map_cons, List.map_nil, List.cons_append, List.nil_append, List.append_nil, List.take_succ_cons, List.take_zero, Nat.sub_self, Nat.reduceSub, Nat.reduceLT, Nat.reduceLeDiff, Nat.reduceAdd, Nat.reduceEqDiff, List.replicate_zero, List.replicate_succ, List.getElem?_cons_zero, List.getElem?_cons_succ, List.length_cons, List.length_nil, List.set_cons_zero, List.set_cons_succ, Bool.not_true, Bool.not_false, Bool.false_eq_true, if_true, if_false, reduceIte, reduceCtorEq, Option.map_some, Option.getD_some, Option.getD_none, Option.bind_some, Option.some.injEq, Nat.zero_add, isiW, muM, Int.cast_ofNat_Int, Int.ofNat_zero, Int.natCast_one, Int.reduceEq, Int.reduceLT, Int.reduceAdd, Int.reduceSub, decide_true, decide_false, L.gen.table, f_law_table]
  refine law_table_ok L.gen hf hF 8 rfl (by decide) fun kvs fd ht hf => ?_
  obtain ⟨ss, e1, el, hss⟩ := sorted_things ht (by decide)
  have hl8 : ss.length ≤ 8 := by have := ht.len; omega
  have e2 : ∀ cl fd, evQ cl T c_law_k01_3 [a0, some fd, a2, a3, a4, some (.str s), a6, a7, a8, a9, a10, some (.dic kvs), a12, a13, a14, a15, a16, a17, a18, a19] = .ok (.lst ((ss.map W.str).map fun x => .tup [x, (subW (.dic kvs) x).getD .non])) [a0, some fd, a2, a3, a4, some (.str s), a6, a7, a8, a9, a10, some (.dic kvs), a12, a13, a14, a15, a16, a17, a18, a19] := fun cl fd => by
    refine ev_map _ (ds := [.lst (ss.map .str)]) (by simp -implicitDefEqProofs only [execsQ, execQ, evQ, evsQ, evoQ, evA, argOf, getAs, putAs, asgQ, asgsQ, bindQ, bind_ok, isB_ok, opt_ok, wp_bind, wp_ok, wp_isB, wp_opt, wp_back, back_ok, ofD, wipeQ, backQ, maskQ, atsLen, List.map_cons, List.map_nil, List.cons_append, List.nil_append, List.append_nil, List.take_succ_cons, List.take_zero, Nat.sub_self, Nat.reduceSub, Nat.reduceLT, Nat.reduceLeDiff, Nat.reduceAdd, Nat.reduceEqDiff, List.replicate_zero, List.replicate_succ, List.getElem?_cons_zero, List.getElem?_cons_succ, List.length_cons, List.length_nil, List.set_cons_zero, List.set_cons_succ, Bool.not_true, Bool.not_false, Bool.false_eq_true, if_true, if_false, reduceIte, reduceCtorEq, Option.map_some, Option.getD_some, Option.getD_none, Option.bind_some, Option.some.injEq, Nat.zero_add, isiW, muM, Int.cast_ofNat_Int, Int.ofNat_zero, Int.natCast_one, Int.reduceEq, Int.reduceLT, Int.reduceAdd, Int.reduceSub, decide_true, decide_false, e1]) i_lst (by rw [List.length_map]; exact sz_small (by omega)) (by simp [tgSl]) fun x hx => ⟨_, rfl, ?_⟩
    obtain ⟨t, ht, rfl⟩ := List.mem_map.mp hx
    obtain ⟨_, i, ei⟩ := hss t ht
    simp -implicitDefEqProofs only [execsQ, execQ, evQ, evsQ, evoQ, evA, argOf, getAs, putAs, asgQ, asgsQ, bindQ, bind_ok, isB_ok, opt_ok, wp_bind, wp_ok, wp_isB, wp_opt, wp_back, back_ok, ofD, wipeQ, backQ, maskQ, atsLen, List.map_cons, List.map_nil, List.cons_append, List.nil_append, List.append_nil, List.take_succ_cons, List.take_zero, Nat.sub_self, Nat.reduceSub, Nat.reduceLT, Nat.reduceLeDiff, Nat.reduceAdd, Nat.reduceEqDiff, List.replicate_zero, List.replicate_succ, List.getElem?_cons_zero, List.getElem?_cons_succ, List.length_cons, List.length_nil, List.set_cons_zero, List.set_cons_succ, Bool.not_true, Bool.not_false, Bool.false_eq_true, if_true, if_false, reduceIte, reduceCtorEq, Option.map_some, Option.getD_some, Option.getD_none, Option.bind_some, Option.some.injEq, Nat.zero_add, isiW, muM, Int.cast_ofNat_Int, Int.ofNat_zero, Int.natCast_one, Int.reduceEq, Int.reduceLT, Int.reduceAdd, Int.reduceSub, decide_true, decide_false, ei, if_pos (sz_small (show 2 ≤ 10000000 by decide))]
  have hth : ∀ w ∈ (ss.map W.str).map (fun x => W.tup [x, (subW (.dic kvs) x).getD .non]), fitW w = true := fun w hw => by
    obtain ⟨x, hx, rfl⟩ := List.mem_map.mp hw
    obtain ⟨t, ht, rfl⟩ := List.mem_map.mp hx
    obtain ⟨hk, i, ei⟩ := hss t ht
    rw [ei]
    exact thing_fit hk
  have hlt : ((ss.map W.str).map (fun x => W.tup [x, (subW (.dic kvs) x).getD .non])).length ≤ 8 := by rw [List.length_map, List.length_map]; exact hl8
  simp -implicitDefEqProofs only [t_law_k01_7, e2, execsQ, execQ, evQ, evsQ, evoQ, evA, argOf, getAs, putAs, asgQ, asgsQ, bindQ, bind_ok, isB_ok, opt_ok, wp_bind, wp_ok, wp_isB, wp_opt, wp_back, back_ok, ofD, wipeQ, backQ, maskQ, atsLen, List.map_cons, List.map_nil, List.cons_append, List.nil_append, List.append_nil, List.take_succ_cons, List.take_zero, Nat.sub_self, Nat.reduceSub, Nat.reduceLT, Nat.reduceLeDiff, Nat.reduceAdd, Nat.reduceEqDiff, List.replicate_zero, List.replicate_succ, List.getElem?_cons_zero, List.getElem?_cons_succ, List.length_cons, List.length_nil, List.set_cons_zero, List.set_cons_succ, Bool.not_true, Bool.not_false, Bool.false_eq_true, if_true, if_false, reduceIte, reduceCtorEq, Option.map_some, Option.getD_some, Option.getD_none, Option.bind_some, Option.some.injEq, Nat.zero_add, isiW, muM, Int.cast_ofNat_Int, Int.ofNat_zero, Int.natCast_one, Int.reduceEq, Int.reduceLT, Int.reduceAdd, Int.reduceSub, decide_true, decide_false, tuple_lst]
  generalize (ss.map W.str).map (fun x => W.tup [x, (subW (.dic kvs) x).getD .non]) = ws at hth hlt
  clear e2
  have e3 : (ws.length : Int) + 1 = ((ws.length + 1 : Nat) : Int) := by omega
  simp -implicitDefEqProofs only [t_law_k01_6, execsQ, execQ, evQ, evsQ, evoQ, evA, argOf, getAs, putAs, asgQ, asgsQ, bindQ, bind_ok, isB_ok, opt_ok, wp_bind, wp_ok, wp_isB, wp_opt, wp_back, back_ok, ofD, wipeQ, backQ, maskQ, atsLen, List.map_cons, List.map_nil, List.cons_append, List.nil_append, List.append_nil, List.take_succ_cons, List.take_zero, Nat.sub_self, Nat.reduceSub, Nat.reduceLT, Nat.reduceLeDiff, Nat.reduceAdd, Nat.reduceEqDiff, List.replicate_zero, List.replicate_succ, List.getElem?_cons_zero, List.getElem?_cons_succ, List.length_cons, List.length_nil, List.set_cons_zero, List.set_cons_succ, Bool.not_true, Bool.not_false, Bool.false_eq_true, if_true, if_false, reduceIte, reduceCtorEq, Option.map_some, Option.getD_some, Option.getD_none, Option.bind_some, Option.some.injEq, Nat.zero_add, isiW, muM, Int.cast_ofNat_Int, Int.ofNat_zero, Int.natCast_one, Int.reduceEq, Int.reduceLT, Int.reduceAdd, Int.reduceSub, decide_true, decide_false, len_tup, w_lt, w_gt, w_le, w_ge, w_lts, w_gts, w_les, w_ges, w_eq, w_ne, w_eqb, w_neb, w_eqs, w_nes, w_add, w_sub, w_isN, w_notN, e3, L.gen.draw, f_law_draw]
  refine draw_ok L.gen.draw hf hF (ws.length + 1) rfl (by omega) (by omega) fun v fd hv hf => ?_
  simp -implicitDefEqProofs only [t_law_k01_5, execsQ, execQ, evQ, evsQ, evoQ, evA, argOf, getAs, putAs, asgQ, asgsQ, bindQ, bind_ok, isB_ok, opt_ok, wp_bind, wp_ok, wp_isB, wp_opt, wp_back, back_ok, ofD, wipeQ, backQ, maskQ, atsLen, List.map_cons, List.map_nil, List.cons_append, List.nil_append, List.append_nil, List.take_succ_cons, List.take_zero, Nat.sub_self, Nat.reduceSub, Nat.reduceLT, Nat.reduceLeDiff, Nat.reduceAdd, Nat.reduceEqDiff, List.replicate_zero, List.replicate_succ, List.getElem?_cons_zero, List.getElem?_cons_succ, List.length_cons, List.length_nil, List.set_cons_zero, List.set_cons_succ, Bool.not_true, Bool.not_false, Bool.false_eq_true, if_true, if_false, reduceIte, reduceCtorEq, Option.map_some, Option.getD_some, Option.getD_none, Option.bind_some, Option.some.injEq, Nat.zero_add, isiW, muM, Int.cast_ofNat_Int, Int.ofNat_zero, Int.natCast_one, Int.reduceEq, Int.reduceLT, Int.reduceAdd, Int.reduceSub, decide_true, decide_false, L.any, f_law_any]
  refine law_any_ok L.gen L.any hs hf hF fun d1 fd f1 hf => ?_
  simp -implicitDefEqProofs only [execsQ, execQ, evQ, evsQ, evoQ, evA, argOf, getAs, putAs, asgQ, asgsQ, bindQ, bind_ok, isB_ok, opt_ok, wp_bind, wp_ok, wp_isB, wp_opt, wp_back, back_ok, ofD, wipeQ, backQ, maskQ, atsLen, List.map_cons, List.map_nil, List.cons_append, List.nil_append, List.append_nil, List.take_succ_cons, List.take_zero, Nat.sub_self, Nat.reduceSub, Nat.reduceLT, Nat.reduceLeDiff, Nat.reduceAdd, Nat.reduceEqDiff, List.replicate_zero, List.replicate_succ, List.getElem?_cons_zero, List.getElem?_cons_succ, List.length_cons, List.length_nil, List.set_cons_zero, List.set_cons_succ, Bool.not_true, Bool.not_false, Bool.false_eq_true, if_true, if_false, reduceIte, reduceCtorEq, Option.map_some, Option.getD_some, Option.getD_none, Option.bind_some, Option.some.injEq, Nat.zero_add, isiW, muM, Int.cast_ofNat_Int, Int.ofNat_zero, Int.natCast_one, Int.reduceEq, Int.reduceLT, Int.reduceAdd, Int.reduceSub, decide_true, decide_false, if_pos (sz_small (show 2 ≤ 10000000 by decide)), L.any, f_law_any]
  refine law_any_ok L.gen L.any hs hf hF fun d2 fd f2 hf => ?_
  have r1 : rvW (.tup ws) = some (.tup ws.reverse) := rfl
  have r2 : biW .list [.tup ws] = some (.lst ws) := rfl
  have r3 : slcW (.tup ws) none (some 1) = some (.tup (Pv.cutD ws none (some 1))) := rfl
  have l3 : ws.length + (Pv.cutD ws none (some 1)).length ≤ sizeLine := sz_small (by have := @cutD_len W ws none (some 1); omega)
  simp -implicitDefEqProofs only [execsQ, execQ, evQ, evsQ, evoQ, evA, argOf, getAs, putAs, asgQ, asgsQ, bindQ, bind_ok, isB_ok, opt_ok, wp_bind, wp_ok, wp_isB, wp_opt, wp_back, back_ok, ofD, wipeQ, backQ, maskQ, atsLen, List.map_cons, List.map_nil, List.cons_append, List.nil_append, List.append_nil, List.take_succ_cons, List.take_zero, Nat.sub_self, Nat.reduceSub, Nat.reduceLT, Nat.reduceLeDiff, Nat.reduceAdd, Nat.reduceEqDiff, List.replicate_zero, List.replicate_succ, List.getElem?_cons_zero, List.getElem?_cons_succ, List.length_cons, List.length_nil, List.set_cons_zero, List.set_cons_succ, Bool.not_true, Bool.not_false, Bool.false_eq_true, if_true, if_false, reduceIte, reduceCtorEq, Option.map_some, Option.getD_some, Option.getD_none, Option.bind_some, Option.some.injEq, Nat.zero_add, isiW, muM, Int.cast_ofNat_Int, Int.ofNat_zero, Int.natCast_one, Int.reduceEq, Int.reduceLT, Int.reduceAdd, Int.reduceSub, decide_true, decide_false, if_pos (sz_small (show 2 ≤ 10000000 by decide)), if_pos (sz_small (show 3 ≤ 10000000 by decide)), if_pos (sz_small (show 5 ≤ 10000000 by decide)), if_pos (sz_small (show 7 ≤ 10000000 by decide)), if_pos (sz_small (show 0 ≤ 10000000 by decide)), t_law_k01_4, r1, r2, r3, w_addt l3, t_law_k01_3, L.gen.draw, f_law_draw]
  refine draw_ok L.gen.draw hf hF 5 rfl (by decide) (by decide) fun u fd hu hf => ?_
  obtain ⟨o, ho, eo⟩ := pick (xs := [.tup [.str s, d1], .tup [d2, .int 0], .tup [.str s, .int 1, .int 2], .lst [.str s, .int 1], .str s]) (v := u) hu
  have fs := hs.fit
  have fo : fitW o = true := by
    simp only [List.mem_cons, List.not_mem_nil, or_false] at ho
    rcases ho with rfl | rfl | rfl | rfl | rfl
    · exact fit_tup (by simp) (by simp [fs, f1])
    · exact fit_tup (by simp) (by simp [f2, fitW])
    · exact fit_tup (by simp) (by simp only [List.mem_cons, List.not_mem_nil, or_false]; rintro w (rfl | rfl | rfl) <;> first | exact fs | rfl)
    · exact fit_lst (by simp) (by simp only [List.mem_cons, List.not_mem_nil, or_false]; rintro w (rfl | rfl) <;> first | exact fs | rfl)
    · exact fs
  simp -implicitDefEqProofs only [execsQ, execQ, evQ, evsQ, evoQ, evA, argOf, getAs, putAs, asgQ, asgsQ, bindQ, bind_ok, isB_ok, opt_ok, wp_bind, wp_ok, wp_isB, wp_opt, wp_back, back_ok, ofD, wipeQ, backQ, maskQ, atsLen, List.map_cons, List.map_nil, List.cons_append, List.nil_append, List.append_nil, List.take_succ_cons, List.take_zero, Nat.sub_self, Nat.reduceSub, Nat.reduceLT, Nat.reduceLeDiff, Nat.reduceAdd, Nat.reduceEqDiff, List.replicate_zero, List.replicate_succ, List.getElem?_cons_zero, List.getElem?_cons_succ, List.length_cons, List.length_nil, List.set_cons_zero, List.set_cons_succ, Bool.not_true, Bool.not_false, Bool.false_eq_true, if_true, if_false, reduceIte, reduceCtorEq, Option.map_some, Option.getD_some, Option.getD_none, Option.bind_some, Option.some.injEq, Nat.zero_add, isiW, muM, Int.cast_ofNat_Int, Int.ofNat_zero, Int.natCast_one, Int.reduceEq, Int.reduceLT, Int.reduceAdd, Int.reduceSub, decide_true, decide_false, eo, L.gen.value, f_law_value]
  refine law_value_ok L.gen hf hF fun j fd hj hf => ?_
  have q1 : slcW (.tup ws) none (some (v : Int)) = some (.tup (Pv.cutD ws none (some (v : Int)))) := rfl
  have q2 : slcW (.tup ws) (some (v : Int)) none = some (.tup (Pv.cutD ws (some (v : Int)) none)) := rfl
  have c1 := @cutD_len W ws none (some (v : Int))
  have c2 := @cutD_len W ws (some (v : Int)) none
  have l4 : ∀ x : W, (Pv.cutD ws none (some (v : Int))).length + [x].length ≤ sizeLine := fun x => sz_small (by simp only [List.length_cons, List.length_nil]; omega)
  have l5 : ∀ x : W, (Pv.cutD ws none (some (v : Int)) ++ [x]).length + (Pv.cutD ws (some (v : Int)) none).length ≤ sizeLine := fun x => sz_small (by simp only [List.length_append, List.length_cons, List.length_nil]; omega)
  have hz : ∀ n : Nat, n ≤ 10 → n < sizeLine := fun n h => Nat.lt_of_le_of_lt h (by rw [sizeLine_eq]; omega)
  have ap : ∀ (ds : List W) (d : W), ds.length ≤ 10 → muW .append (.lst ds) [d] = some (.non, .lst (ds ++ [d])) := fun ds d h => if_pos (hz _ h)
  simp -implicitDefEqProofs only [execsQ, execQ, evQ, evsQ, evoQ, evA, argOf, getAs, putAs, asgQ, asgsQ, bindQ, bind_ok, isB_ok, opt_ok, wp_bind, wp_ok, wp_isB, wp_opt, wp_back, back_ok, ofD, wipeQ, backQ, maskQ, atsLen, List.map_cons, List.map_nil, List.cons_append, List.nil_append, List.append_nil, List.take_succ_cons, List.take_zero, Nat.sub_self, Nat.reduceSub, Nat.reduceLT, Nat.reduceLeDiff, Nat.reduceAdd, Nat.reduceEqDiff, List.replicate_zero, List.replicate_succ, List.getElem?_cons_zero, List.getElem?_cons_succ, List.length_cons, List.length_nil, List.set_cons_zero, List.set_cons_succ, Bool.not_true, Bool.not_false, Bool.false_eq_true, if_true, if_false, reduceIte, reduceCtorEq, Option.map_some, Option.getD_some, Option.getD_none, Option.bind_some, Option.some.injEq, Nat.zero_add, isiW, muM, Int.cast_ofNat_Int, Int.ofNat_zero, Int.natCast_one, Int.reduceEq, Int.reduceLT, Int.reduceAdd, Int.reduceSub, decide_true, decide_false, if_pos (sz_small (show 2 ≤ 10000000 by decide)), if_pos (sz_small (show 1 ≤ 10000000 by decide)), i_lst, forQ, w_law_k01_7, q1, q2, w_addt (l4 _), w_addt (l5 _), ap]
  simp -implicitDefEqProofs only [t_law_k01_2, execsQ, execQ, evQ, evsQ, evoQ, evA, argOf, getAs, putAs, asgQ, asgsQ, bindQ, bind_ok, isB_ok, opt_ok, wp_bind, wp_ok, wp_isB, wp_opt, wp_back, back_ok, ofD, wipeQ, backQ, maskQ, atsLen, List.map_cons, List.map_nil, List.cons_append, List.nil_append, List.append_nil, List.take_succ_cons, List.take_zero, Nat.sub_self, Nat.reduceSub, Nat.reduceLT, Nat.reduceLeDiff, Nat.reduceAdd, Nat.reduceEqDiff, List.replicate_zero, List.replicate_succ, List.getElem?_cons_zero, List.getElem?_cons_succ, List.length_cons, List.length_nil, List.set_cons_zero, List.set_cons_succ, Bool.not_true, Bool.not_false, Bool.false_eq_true, if_true, if_false, reduceIte, reduceCtorEq, Option.map_some, Option.getD_some, Option.getD_none, Option.bind_some, Option.some.injEq, Nat.zero_add, isiW, muM, Int.cast_ofNat_Int, Int.ofNat_zero, Int.natCast_one, Int.reduceEq, Int.reduceLT, Int.reduceAdd, Int.reduceSub, decide_true, decide_false, i_lst]
  have cf1 : ∀ (x : W), fitW x = true → fitW (.tup (Pv.cutD ws none (some (v : Int)) ++ [x] ++ Pv.cutD ws (some (v : Int)) none)) = true := fun x hx => by
    refine fit_tup (by simp only [List.length_append, List.length_cons, List.length_nil]; omega) fun w hw => ?_
    simp only [List.mem_append, List.mem_singleton] at hw
    rcases hw with (hw | rfl) | hw
    · exact hth w (cutD_mem hw)
    · exact hx
    · exact hth w (cutD_mem hw)
  refine for_slot 10 (fun x hx y => ?_) (fun y => ?_)
  rotate_left
  · simp -implicitDefEqProofs only [execsQ, execQ, evQ, evsQ, evoQ, evA, argOf, getAs, putAs, asgQ, asgsQ, bindQ, bind_ok, isB_ok, opt_ok, wp_bind, wp_ok, wp_isB, wp_opt, wp_back, back_ok, ofD, wipeQ, backQ, maskQ, atsLen, List.map_cons, List.map_nil, List.cons_append, List.nil_append, List.append_nil, List.take_succ_cons, List.take_zero, Nat.sub_self, Nat.reduceSub, Nat.reduceLT, Nat.reduceLeDiff, Nat.reduceAdd, Nat.reduceEqDiff, List.replicate_zero, List.replicate_succ, List.getElem?_cons_zero, List.getElem?_cons_succ, List.length_cons, List.length_nil, List.set_cons_zero, List.set_cons_succ, Bool.not_true, Bool.not_false, Bool.false_eq_true, if_true, if_false, reduceIte, reduceCtorEq, Option.map_some, Option.getD_some, Option.getD_none, Option.bind_some, Option.some.injEq, Nat.zero_add, isiW, muM, Int.cast_ofNat_Int, Int.ofNat_zero, Int.natCast_one, Int.reduceEq, Int.reduceLT, Int.reduceAdd, Int.reduceSub, decide_true, decide_false]
    exact hp _ _ _ _ _ _ _ _ hf
  have fx : fitW x = true := by
    simp only [List.mem_cons, List.not_mem_nil, or_false] at hx
    rcases hx with rfl | rfl | rfl | rfl | rfl | rfl | rfl | rfl | rfl
    · exact fit_tup (by omega) hth
    · exact fit_lst (by omega) hth
    · exact fit_tup (by rw [List.length_reverse]; omega) fun w hw => hth w (List.mem_reverse.mp hw)
    · refine fit_tup (by rw [List.length_append]; have := @cutD_len W ws none (some 1); omega) fun w hw => ?_
      rcases List.mem_append.mp hw with hw | hw
      · exact hth w hw
      · exact hth w (cutD_mem hw)
    · rfl
    · rfl
    · rfl
    · exact cf1 _ fo
    · exact cf1 _ (thing_fit hs)
  simp -implicitDefEqProofs only [w_law_k01_9, execsQ, execQ, evQ, evsQ, evoQ, evA, argOf, getAs, putAs, asgQ, asgsQ, bindQ, bind_ok, isB_ok, opt_ok, wp_bind, wp_ok, wp_isB, wp_opt, wp_back, back_ok, ofD, wipeQ, backQ, maskQ, atsLen, List.map_cons, List.map_nil, List.cons_append, List.nil_append, List.append_nil, List.take_succ_cons, List.take_zero, Nat.sub_self, Nat.reduceSub, Nat.reduceLT, Nat.reduceLeDiff, Nat.reduceAdd, Nat.reduceEqDiff, List.replicate_zero, List.replicate_succ, List.getElem?_cons_zero, List.getElem?_cons_succ, List.length_cons, List.length_nil, List.set_cons_zero, List.set_cons_succ, Bool.not_true, Bool.not_false, Bool.false_eq_true, if_true, if_false, reduceIte, reduceCtorEq, Option.map_some, Option.getD_some, Option.getD_none, Option.bind_some, Option.some.injEq, Nat.zero_add, isiW, muM, Int.cast_ofNat_Int, Int.ofNat_zero, Int.natCast_one, Int.reduceEq, Int.reduceLT, Int.reduceAdd, Int.reduceSub, decide_true, decide_false, L.keys.are_things, f_are_things, are_things_ok L.keys fx, L.read.are_things, f_law_are_things, law_are_things_ok L.read fx, L.read.is_told, f_law_is_told, is_told L, and_self]
theorem part1 (L : LK01 T) {t : Str} (hs : KeyS s) (ht : KeyS t) (hf : FeedOk ns fd) (hF : ns.length < F) (hp : ∀ fd a7 a8 a9 a10 a11 a12 a13 a14 a15 a16, FeedOk ns fd → P .nx [a0, some fd, a2, a3, a4, some (.str s), some (.str t), a7, a8, a9, a10, a11, a12, a13, a14, a15, a16, a17, a18, a19]) :
    WP (execsQ (callQ T F (k + 4)) T F t_law_k01_14 [a0, some fd, a2, a3, a4, some (.str s), some (.str t), a7, a8, a9, a10, a11, a12, a13, a14, a15, a16, a17, a18, a19]) P := by
  have e1 : ∀ x7 : Option W, x7 = some (.tup (digs (nOf s))) → evQ (callQ T F (k + 4)) T c_law_k01_2 [a0, some fd, a2, a3, a4, some (.str s), some (.str t), x7, a8, a9, a10, a11, a12, a13, a14, a15, a16, a17, a18, a19] = .ok (.lst (((List.range 5).map fun (k : Nat) => W.int (k : Int)).map fun x => .int (match x with | .int j => ((nOf s / 4 ^ j.toNat % 4 * 4 ^ j.toNat : Nat) : Int) | _ => 0))) [a0, some fd, a2, a3, a4, some (.str s), some (.str t), x7, a8, a9, a10, a11, a12, a13, a14, a15, a16, a17, a18, a19] := fun x7 h7 => by
    subst h7
    refine ev_map _ (ds := [.int 5]) rfl (iter_rng1 rfl (by decide)) (by rw [List.length_map, List.length_range]; exact sz_small (by decide)) (by simp [tgSl]) fun x hx => ?_
    obtain ⟨j, hj, rfl⟩ := List.mem_map.mp hx
    rw [List.mem_range] at hj
    refine ⟨_, rfl, ?_⟩
    have d : subW (.tup (digs (nOf s))) (.int (j : Int)) = some (.int ((nOf s / 4 ^ j % 4 : Nat) : Int)) := by
      rw [← digs_eq]
      exact sub_tup rfl (by rw [List.getElem?_map, List.getElem?_range hj]; rfl)
    have hb : ((nOf s / 4 ^ j % 4 : Nat) : Int) < 4 := by omega
    have hm : ((nOf s / 4 ^ j % 4 : Nat) : Int) * ((4 ^ j : Nat) : Int) = ((nOf s / 4 ^ j % 4 * 4 ^ j : Nat) : Int) := by rw [Int.natCast_mul]
    simp -implicitDefEqProofs only [execsQ, execQ, evQ, evsQ, evoQ, evA, argOf, getAs, putAs, asgQ, asgsQ, bindQ, bind_ok, isB_ok, opt_ok, wp_bind, wp_ok, wp_isB, wp_opt, wp_back, back_ok, ofD, wipeQ, backQ, maskQ, atsLen, List.map_cons, List.map_nil, List.cons_append, List.nil_append, List.append_nil, List.take_succ_cons, List.take_zero, Nat.sub_self, Nat.reduceSub, Nat.reduceLT, Nat.reduceLeDiff, Nat.reduceAdd, Nat.reduceEqDiff, List.replicate_zero, List.replicate_succ, List.getElem?_cons_zero, List.getElem?_cons_succ, List.length_cons, List.length_nil, List.set_cons_zero, List.set_cons_succ, Bool.not_true, Bool.not_false, Bool.false_eq_true, if_true, if_false, reduceIte, reduceCtorEq, Option.map_some, Option.getD_some, Option.getD_none, Option.bind_some, Option.some.injEq, Nat.zero_add, isiW, muM, Int.cast_ofNat_Int, Int.ofNat_zero, Int.natCast_one, Int.reduceEq, Int.reduceLT, Int.reduceAdd, Int.reduceSub, decide_true, decide_false, d, pow5 hj, if_pos (sz_small (show 5 ≤ 10000000 by decide)), w_mul' (i := ((nOf s / 4 ^ j % 4 : Nat) : Int)) (j := ((4 ^ j : Nat) : Int)) (by omega), hm, Int.toNat_natCast]
  have esum : (((List.range 5).map fun (k : Nat) => W.int (k : Int)).map fun x => (match x with | .int j => ((nOf s / 4 ^ j.toNat % 4 * 4 ^ j.toNat : Nat) : Int) | _ => 0)).sum = ((nOf s % 1024 : Nat) : Int) := by
    have er : (List.range 5).map (fun (k : Nat) => W.int (k : Int)) = [.int 0, .int 1, .int 2, .int 3, .int 4] := rfl
    rw [er]
    simp only [List.map_cons, List.map_nil, List.sum_cons, List.sum_nil]
    have t0 : (0 : Int).toNat = 0 := rfl
    have t1 : (1 : Int).toNat = 1 := rfl
    have t2 : (2 : Int).toNat = 2 := rfl
    have t3 : (3 : Int).toNat = 3 := rfl
    have t4 : (4 : Int).toNat = 4 := rfl
    rw [t0, t1, t2, t3, t4]
    simp only [Nat.pow_zero, Nat.pow_one, Nat.reducePow]
    omega
  have hsum : biW .sum [.lst (((List.range 5).map fun (k : Nat) => W.int (k : Int)).map fun x => .int (match x with | .int j => ((nOf s / 4 ^ j.toNat % 4 * 4 ^ j.toNat : Nat) : Int) | _ => 0))] = some (.int ((nOf s % 1024 : Nat) : Int)) := by rw [sum_lst, esum]
  have n1 : nOf s % 1024 < 10 ^ 24 := by omega
  simp -implicitDefEqProofs only [t_law_k01_14, t_law_k01_13, t_law_k01_12, execsQ, execQ, evQ, evsQ, evoQ, evA, argOf, getAs, putAs, asgQ, asgsQ, bindQ, bind_ok, isB_ok, opt_ok, wp_bind, wp_ok, wp_isB, wp_opt, wp_back, back_ok, ofD, wipeQ, backQ, maskQ, atsLen, List.map_cons, List.map_nil, List.cons_append, List.nil_append, List.append_nil, List.take_succ_cons, List.take_zero, Nat.sub_self, Nat.reduceSub, Nat.reduceLT, Nat.reduceLeDiff, Nat.reduceAdd, Nat.reduceEqDiff, List.replicate_zero, List.replicate_succ, List.getElem?_cons_zero, List.getElem?_cons_succ, List.length_cons, List.length_nil, List.set_cons_zero, List.set_cons_succ, Bool.not_true, Bool.not_false, Bool.false_eq_true, if_true, if_false, reduceIte, reduceCtorEq, Option.map_some, Option.getD_some, Option.getD_none, Option.bind_some, Option.some.injEq, Nat.zero_add, isiW, muM, Int.cast_ofNat_Int, Int.ofNat_zero, Int.natCast_one, Int.reduceEq, Int.reduceLT, Int.reduceAdd, Int.reduceSub, decide_true, decide_false, L.digits, f_law_digits, law_digits_ok L.digits hs.word]
  simp -implicitDefEqProofs only [e1 _ rfl, execsQ, execQ, evQ, evsQ, evoQ, evA, argOf, getAs, putAs, asgQ, asgsQ, bindQ, bind_ok, isB_ok, opt_ok, wp_bind, wp_ok, wp_isB, wp_opt, wp_back, back_ok, ofD, wipeQ, backQ, maskQ, atsLen, List.map_cons, List.map_nil, List.cons_append, List.nil_append, List.append_nil, List.take_succ_cons, List.take_zero, Nat.sub_self, Nat.reduceSub, Nat.reduceLT, Nat.reduceLeDiff, Nat.reduceAdd, Nat.reduceEqDiff, List.replicate_zero, List.replicate_succ, List.getElem?_cons_zero, List.getElem?_cons_succ, List.length_cons, List.length_nil, List.set_cons_zero, List.set_cons_succ, Bool.not_true, Bool.not_false, Bool.false_eq_true, if_true, if_false, reduceIte, reduceCtorEq, Option.map_some, Option.getD_some, Option.getD_none, Option.bind_some, Option.some.injEq, Nat.zero_add, isiW, muM, Int.cast_ofNat_Int, Int.ofNat_zero, Int.natCast_one, Int.reduceEq, Int.reduceLT, Int.reduceAdd, Int.reduceSub, decide_true, decide_false, hsum, L.keys.digits_of, f_digits_of, digits_of_ok L.keys hs.word, L.keys.number_of, f_number_of, number_of_ok L.keys.number_of hs.word, repr_digs, repr_num n1, w_lt, w_gt, w_le, w_ge, w_lts, w_gts, w_les, w_ges, w_eq, w_ne, w_eqb, w_neb, w_eqs, w_nes, w_add, w_sub, w_isN, w_notN]
  have ei : decide (((nOf s % 1024 : Nat) : Int) = ((nOf t % 1024 : Nat) : Int)) = decide (nOf s % 1024 = nOf t % 1024) := decide_eq_decide.mpr (by omega)
  simp -implicitDefEqProofs only [t_law_k01_11, t_law_k01_10, execsQ, execQ, evQ, evsQ, evoQ, evA, argOf, getAs, putAs, asgQ, asgsQ, bindQ, bind_ok, isB_ok, opt_ok, wp_bind, wp_ok, wp_isB, wp_opt, wp_back, back_ok, ofD, wipeQ, backQ, maskQ, atsLen, List.map_cons, List.map_nil, List.cons_append, List.nil_append, List.append_nil, List.take_succ_cons, List.take_zero, Nat.sub_self, Nat.reduceSub, Nat.reduceLT, Nat.reduceLeDiff, Nat.reduceAdd, Nat.reduceEqDiff, List.replicate_zero, List.replicate_succ, List.getElem?_cons_zero, List.getElem?_cons_succ, List.length_cons, List.length_nil, List.set_cons_zero, List.set_cons_succ, Bool.not_true, Bool.not_false, Bool.false_eq_true, if_true, if_false, reduceIte, reduceCtorEq, Option.map_some, Option.getD_some, Option.getD_none, Option.bind_some, Option.some.injEq, Nat.zero_add, isiW, muM, Int.cast_ofNat_Int, Int.ofNat_zero, Int.natCast_one, Int.reduceEq, Int.reduceLT, Int.reduceAdd, Int.reduceSub, decide_true, decide_false, L.keys.number_of, f_number_of, number_of_ok L.keys.number_of hs.word, number_of_ok L.keys.number_of ht.word, L.digits, f_law_digits, law_digits_ok L.digits ht.word, eq_digs, ei, w_lt, w_gt, w_le, w_ge, w_lts, w_gts, w_les, w_ges, w_eq, w_ne, w_eqb, w_neb, w_eqs, w_nes, w_add, w_sub, w_isN, w_notN]
  simp -implicitDefEqProofs only [t_law_k01_9, execsQ, execQ, evQ, evsQ, evoQ, evA, argOf, getAs, putAs, asgQ, asgsQ, bindQ, bind_ok, isB_ok, opt_ok, wp_bind, wp_ok, wp_isB, wp_opt, wp_back, back_ok, ofD, wipeQ, backQ, maskQ, atsLen, List.map_cons, List.map_nil, List.cons_append, List.nil_append, List.append_nil, List.take_succ_cons, List.take_zero, Nat.sub_self, Nat.reduceSub, Nat.reduceLT, Nat.reduceLeDiff, Nat.reduceAdd, Nat.reduceEqDiff, List.replicate_zero, List.replicate_succ, List.getElem?_cons_zero, List.getElem?_cons_succ, List.length_cons, List.length_nil, List.set_cons_zero, List.set_cons_succ, Bool.not_true, Bool.not_false, Bool.false_eq_true, if_true, if_false, reduceIte, reduceCtorEq, Option.map_some, Option.getD_some, Option.getD_none, Option.bind_some, Option.some.injEq, Nat.zero_add, isiW, muM, Int.cast_ofNat_Int, Int.ofNat_zero, Int.natCast_one, Int.reduceEq, Int.reduceLT, Int.reduceAdd, Int.reduceSub, decide_true, decide_false, L.any, f_law_any]
  refine law_any_ok L.gen L.any hs hf hF fun d1 fd f1 hf => ?_
  simp -implicitDefEqProofs only [execsQ, execQ, evQ, evsQ, evoQ, evA, argOf, getAs, putAs, asgQ, asgsQ, bindQ, bind_ok, isB_ok, opt_ok, wp_bind, wp_ok, wp_isB, wp_opt, wp_back, back_ok, ofD, wipeQ, backQ, maskQ, atsLen, List.map_cons, List.map_nil, List.cons_append, List.nil_append, List.append_nil, List.take_succ_cons, List.take_zero, Nat.sub_self, Nat.reduceSub, Nat.reduceLT, Nat.reduceLeDiff, Nat.reduceAdd, Nat.reduceEqDiff, List.replicate_zero, List.replicate_succ, List.getElem?_cons_zero, List.getElem?_cons_succ, List.length_cons, List.length_nil, List.set_cons_zero, List.set_cons_succ, Bool.not_true, Bool.not_false, Bool.false_eq_true, if_true, if_false, reduceIte, reduceCtorEq, Option.map_some, Option.getD_some, Option.getD_none, Option.bind_some, Option.some.injEq, Nat.zero_add, isiW, muM, Int.cast_ofNat_Int, Int.ofNat_zero, Int.natCast_one, Int.reduceEq, Int.reduceLT, Int.reduceAdd, Int.reduceSub, decide_true, decide_false, L.any, f_law_any]
  refine law_any_ok L.gen L.any hs hf hF fun d2 fd f2 hf => ?_
  simp -implicitDefEqProofs only [execsQ, execQ, evQ, evsQ, evoQ, evA, argOf, getAs, putAs, asgQ, asgsQ, bindQ, bind_ok, isB_ok, opt_ok, wp_bind, wp_ok, wp_isB, wp_opt, wp_back, back_ok, ofD, wipeQ, backQ, maskQ, atsLen, List.map_cons, List.map_nil, List.cons_append, List.nil_append, List.append_nil, List.take_succ_cons, List.take_zero, Nat.sub_self, Nat.reduceSub, Nat.reduceLT, Nat.reduceLeDiff, Nat.reduceAdd, Nat.reduceEqDiff, List.replicate_zero, List.replicate_succ, List.getElem?_cons_zero, List.getElem?_cons_succ, List.length_cons, List.length_nil, List.set_cons_zero, List.set_cons_succ, Bool.not_true, Bool.not_false, Bool.false_eq_true, if_true, if_false, reduceIte, reduceCtorEq, Option.map_some, Option.getD_some, Option.getD_none, Option.bind_some, Option.some.injEq, Nat.zero_add, isiW, muM, Int.cast_ofNat_Int, Int.ofNat_zero, Int.natCast_one, Int.reduceEq, Int.reduceLT, Int.reduceAdd, Int.reduceSub, decide_true, decide_false, L.any, f_law_any]
  refine law_any_ok L.gen L.any ht hf hF fun d3 fd f3 hf => ?_
  simp -implicitDefEqProofs only [execsQ, execQ, evQ, evsQ, evoQ, evA, argOf, getAs, putAs, asgQ, asgsQ, bindQ, bind_ok, isB_ok, opt_ok, wp_bind, wp_ok, wp_isB, wp_opt, wp_back, back_ok, ofD, wipeQ, backQ, maskQ, atsLen, List.map_cons, List.map_nil, List.cons_append, List.nil_append, List.append_nil, List.take_succ_cons, List.take_zero, Nat.sub_self, Nat.reduceSub, Nat.reduceLT, Nat.reduceLeDiff, Nat.reduceAdd, Nat.reduceEqDiff, List.replicate_zero, List.replicate_succ, List.getElem?_cons_zero, List.getElem?_cons_succ, List.length_cons, List.length_nil, List.set_cons_zero, List.set_cons_succ, Bool.not_true, Bool.not_false, Bool.false_eq_true, if_true, if_false, reduceIte, reduceCtorEq, Option.map_some, Option.getD_some, Option.getD_none, Option.bind_some, Option.some.injEq, Nat.zero_add, isiW, muM, Int.cast_ofNat_Int, Int.ofNat_zero, Int.natCast_one, Int.reduceEq, Int.reduceLT, Int.reduceAdd, Int.reduceSub, decide_true, decide_false, if_pos (sz_small (show 4 ≤ 10000000 by decide)), i_lst]
  refine for_slot 10 (fun x hx y => ?_) (fun y => ?_)
  · have fx : fitW x = true := by
      simp only [List.mem_cons, List.not_mem_nil, or_false] at hx
      rcases hx with rfl | rfl | rfl | rfl
      · exact hs.fit
      · exact f1
      · exact f2
      · exact f3
    simp -implicitDefEqProofs only [w_law_k01_6, t_law_k01_1, execsQ, execQ, evQ, evsQ, evoQ, evA, argOf, getAs, putAs, asgQ, asgsQ, bindQ, bind_ok, isB_ok, opt_ok, wp_bind, wp_ok, wp_isB, wp_opt, wp_back, back_ok, ofD, wipeQ, backQ, maskQ, atsLen, List.map_cons, List.map_nil, List.cons_append, List.nil_append, List.append_nil, List.take_succ_cons, List.take_zero, Nat.sub_self, Nat.reduceSub, Nat.reduceLT, Nat.reduceLeDiff, Nat.reduceAdd, Nat.reduceEqDiff, List.replicate_zero, List.replicate_succ, List.getElem?_cons_zero, List.getElem?_cons_succ, List.length_cons, List.length_nil, List.set_cons_zero, List.set_cons_succ, Bool.not_true, Bool.not_false, Bool.false_eq_true, if_true, if_false, reduceIte, reduceCtorEq, Option.map_some, Option.getD_some, Option.getD_none, Option.bind_some, Option.some.injEq, Nat.zero_add, isiW, muM, Int.cast_ofNat_Int, Int.ofNat_zero, Int.natCast_one, Int.reduceEq, Int.reduceLT, Int.reduceAdd, Int.reduceSub, decide_true, decide_false, L.keys.is_key, f_is_key, is_key_ok L.keys.is_key fx, L.read.is_key, f_law_is_key, law_is_key_ok L.read.is_key fx, L.keys.is_value, f_is_value, is_value_ok L.keys, L.read.is_value, f_law_is_value, law_is_value_ok L.read.is_value, L.read.is_told, f_law_is_told, is_told L, and_self]
  · simp -implicitDefEqProofs only [execsQ, execQ, evQ, evsQ, evoQ, evA, argOf, getAs, putAs, asgQ, asgsQ, bindQ, bind_ok, isB_ok, opt_ok, wp_bind, wp_ok, wp_isB, wp_opt, wp_back, back_ok, ofD, wipeQ, backQ, maskQ, atsLen, List.map_cons, List.map_nil, List.cons_append, List.nil_append, List.append_nil, List.take_succ_cons, List.take_zero, Nat.sub_self, Nat.reduceSub, Nat.reduceLT, Nat.reduceLeDiff, Nat.reduceAdd, Nat.reduceEqDiff, List.replicate_zero, List.replicate_succ, List.getElem?_cons_zero, List.getElem?_cons_succ, List.length_cons, List.length_nil, List.set_cons_zero, List.set_cons_succ, Bool.not_true, Bool.not_false, Bool.false_eq_true, if_true, if_false, reduceIte, reduceCtorEq, Option.map_some, Option.getD_some, Option.getD_none, Option.bind_some, Option.some.injEq, Nat.zero_add, isiW, muM, Int.cast_ofNat_Int, Int.ofNat_zero, Int.natCast_one, Int.reduceEq, Int.reduceLT, Int.reduceAdd, Int.reduceSub, decide_true, decide_false]
    exact part2 L hs hf hF fun fd a10 a11 a12 a13 a14 a15 a16 hf => hp _ _ _ _ _ _ _ _ _ _ _ hf
theorem repr_ft : biW .repr [.lst [.bl false, .bl true]] = some (.str (Str.ofString "[False, True]")) := by
  rw [repr_nice (by simp [dep, deps]) (by simp [niceW, niceWs]) (by simp [wtW, wtWs])]
  have : (pdT (.lst [.bl false, .bl true])).shown = Str.ofString "[False, True]" := by decide +kernel
  rw [this]
theorem law_k01_ok (L : LK01 T) (hl : ns.length ≤ 63) (hF : 63 < F) : ∃ os, callQ T F (k + 5) "law" [.fzl (ns.map .int)] = .ok (.bl true) os := by
  have h : WP (callQ T F (k + 5) "law" [.fzl (ns.map .int)]) fun d ρ => d = .bl true := by
    refine wp_call L.law ⟨rfl, by decide, rfl⟩ ?_
    obtain ⟨fd, e0, hf⟩ := law_feed_ok (T := T) (F := F) (k := k + 3) L.gen.feed hl
    have e1 : ∀ a0 fd, evQ (callQ T F (k + 4)) T c_law_k01_1 [a0, some fd, some (.str (Str.ofString "abcdefghijklmnopqrstuvwxyz")), none, none, none, none, none, none, none, none, none, none, none, none, none, none, none, none, none] = .ok (.lst manyW) [a0, some fd, some (.str (Str.ofString "abcdefghijklmnopqrstuvwxyz")), none, none, none, none, none, none, none, none, none, none, none, none, none, none, none, none, none] := fun a0 fd => by
      have := ev_map (clq := callQ T F (k + 4)) (T := T) (elt := .tup (.cons (.bin .Add (.sub (.var 2) (.bin .FloorDiv (.var 18) (.cst (.int (26))))) (.sub (.var 2) (.bin .Mod (.var 18) (.cst (.int (26)))))) (.cons (.var 18) .nil))) (t := .nm 18) (ik := .range) (es := .cons (.cst (.int 201)) .nil) (own := [17, 18]) (ρ := [a0, some fd, some (.str (Str.ofString "abcdefghijklmnopqrstuvwxyz")), none, none, none, none, none, none, none, none, none, none, none, none, none, none, none, none, none]) (ds := [.int 201]) (fun x => match x with | .int j => .tup [.str ⟨#[97 + j.toNat / 26, 97 + j.toNat % 26]⟩, .int j] | _ => .non) rfl (iter_rng1 (n := 201) rfl (by decide)) (by rw [List.length_map, List.length_range]; exact sz_small (by decide)) (by simp [tgSl]) fun x hx => ?_
      · rw [List.map_map] at this
        exact this
      · obtain ⟨j, hj, rfl⟩ := List.mem_map.mp hx
        rw [List.mem_range] at hj
        refine ⟨_, rfl, ?_⟩
        have lt : ∀ i : Nat, i < 26 → subW (.str (Str.ofString "abcdefghijklmnopqrstuvwxyz")) (.int (i : Int)) = some (.str ⟨#[97 + i]⟩) := fun i hi => by
          refine sub_str (c := 97 + i) (by rw [letters_len]; exact sz_small (by decide)) rfl ?_
          rw [letters_cps]
          unfold lettersL
          rw [List.getElem?_map, List.getElem?_range hi]
          simp [Nat.add_comm]
        have d1 : (j : Int) / 26 = ((j / 26 : Nat) : Int) := by omega
        have d2 : (j : Int) % 26 = ((j % 26 : Nat) : Int) := by omega
        simp -implicitDefEqProofs only [execsQ, execQ, evQ, evsQ, evoQ, evA, argOf, getAs, putAs, asgQ, asgsQ, bindQ, bind_ok, isB_ok, opt_ok, wp_bind, wp_ok, wp_isB, wp_opt, wp_back, back_ok, ofD, wipeQ, backQ, maskQ, atsLen, List.map_cons, List.map_nil, List.cons_append, List.nil_append, List.append_nil, List.take_succ_cons, List.take_zero, Nat.sub_self, Nat.reduceSub, Nat.reduceLT, Nat.reduceLeDiff, Nat.reduceAdd, Nat.reduceEqDiff, List.replicate_zero, List.replicate_succ, List.getElem?_cons_zero, List.getElem?_cons_succ, List.length_cons, List.length_nil, List.set_cons_zero, List.set_cons_succ, Bool.not_true, Bool.not_false, Bool.false_eq_true, if_true, if_false, reduceIte, reduceCtorEq, Option.map_some, Option.getD_some, Option.getD_none, Option.bind_some, Option.some.injEq, Nat.zero_add, isiW, muM, Int.cast_ofNat_Int, Int.ofNat_zero, Int.natCast_one, Int.reduceEq, Int.reduceLT, Int.reduceAdd, Int.reduceSub, decide_true, decide_false, w_div (j := 26) (by decide) (by decide), w_mod (j := 26) (by decide), d1, d2, lt (j / 26) (by omega), lt (j % 26) (by omega), w_adds (a := ⟨#[97 + j / 26]⟩) (b := ⟨#[97 + j % 26]⟩) (sz_small (show 1 + 1 ≤ 10000000 by decide)), if_pos (sz_small (show 2 ≤ 10000000 by decide)), Int.toNat_natCast]
        try rfl
    have c1 : slcW (.tup manyW) (some 1) none = some (.tup (manyW.drop 1)) := by
      have hl : manyW.length = 201 := by simp [manyW]
      have : Pv.cutD manyW (some 1) none = manyW.drop 1 := by
        unfold Pv.cutD
        have h1 : HT.sIx manyW.length 0 (some 1) = min 1 manyW.length := by
          show HT.sIx _ _ (some ((1 : Nat) : Int)) = _
          rw [HT.sIx_nat]
        have h2 : HT.sIx manyW.length manyW.length none = manyW.length := rfl
        rw [h1, h2, hl]
        exact List.take_of_length_le (by rw [List.length_drop, hl]; decide)
      simp only [slcW, this]
    simp -implicitDefEqProofs only [f_law_k01, b_law_k01, t_law_k01_19, t_law_k01_18, execsQ, execQ, evQ, evsQ, evoQ, evA, argOf, getAs, putAs, asgQ, asgsQ, bindQ, bind_ok, isB_ok, opt_ok, wp_bind, wp_ok, wp_isB, wp_opt, wp_back, back_ok, ofD, wipeQ, backQ, maskQ, atsLen, List.map_cons, List.map_nil, List.cons_append, List.nil_append, List.append_nil, List.take_succ_cons, List.take_zero, Nat.sub_self, Nat.reduceSub, Nat.reduceLT, Nat.reduceLeDiff, Nat.reduceAdd, Nat.reduceEqDiff, List.replicate_zero, List.replicate_succ, List.getElem?_cons_zero, List.getElem?_cons_succ, List.length_cons, List.length_nil, List.set_cons_zero, List.set_cons_succ, Bool.not_true, Bool.not_false, Bool.false_eq_true, if_true, if_false, reduceIte, reduceCtorEq, Option.map_some, Option.getD_some, Option.getD_none, Option.bind_some, Option.some.injEq, Nat.zero_add, isiW, muM, Int.cast_ofNat_Int, Int.ofNat_zero, Int.natCast_one, Int.reduceEq, Int.reduceLT, Int.reduceAdd, Int.reduceSub, decide_true, decide_false, L.gen.feed, f_law_feed, e0]
    simp -implicitDefEqProofs only [e1, tuple_lst, t_law_k01_17, execsQ, execQ, evQ, evsQ, evoQ, evA, argOf, getAs, putAs, asgQ, asgsQ, bindQ, bind_ok, isB_ok, opt_ok, wp_bind, wp_ok, wp_isB, wp_opt, wp_back, back_ok, ofD, wipeQ, backQ, maskQ, atsLen, List.map_cons, List.map_nil, List.cons_append, List.nil_append, List.append_nil, List.take_succ_cons, List.take_zero, Nat.sub_self, Nat.reduceSub, Nat.reduceLT, Nat.reduceLeDiff, Nat.reduceAdd, Nat.reduceEqDiff, List.replicate_zero, List.replicate_succ, List.getElem?_cons_zero, List.getElem?_cons_succ, List.length_cons, List.length_nil, List.set_cons_zero, List.set_cons_succ, Bool.not_true, Bool.not_false, Bool.false_eq_true, if_true, if_false, reduceIte, reduceCtorEq, Option.map_some, Option.getD_some, Option.getD_none, Option.bind_some, Option.some.injEq, Nat.zero_add, isiW, muM, Int.cast_ofNat_Int, Int.ofNat_zero, Int.natCast_one, Int.reduceEq, Int.reduceLT, Int.reduceAdd, Int.reduceSub, decide_true, decide_false, L.keys.are_things, f_are_things, c1, are_things_ok L.keys many_fit, are_things_ok L.keys many_fit1, many_no, many_yes, if_pos (sz_small (show 2 ≤ 10000000 by decide)), repr_ft, w_lt, w_gt, w_le, w_ge, w_lts, w_gts, w_les, w_ges, w_eq, w_ne, w_eqb, w_neb, w_eqs, w_nes, w_add, w_sub, w_isN, w_notN]
    simp -implicitDefEqProofs only [t_law_k01_16, execsQ, execQ, evQ, evsQ, evoQ, evA, argOf, getAs, putAs, asgQ, asgsQ, bindQ, bind_ok, isB_ok, opt_ok, wp_bind, wp_ok, wp_isB, wp_opt, wp_back, back_ok, ofD, wipeQ, backQ, maskQ, atsLen, List.map_cons, List.map_nil, List.cons_append, List.nil_append, List.append_nil, List.take_succ_cons, List.take_zero, Nat.sub_self, Nat.reduceSub, Nat.reduceLT, Nat.reduceLeDiff, Nat.reduceAdd, Nat.reduceEqDiff, List.replicate_zero, List.replicate_succ, List.getElem?_cons_zero, List.getElem?_cons_succ, List.length_cons, List.length_nil, List.set_cons_zero, List.set_cons_succ, Bool.not_true, Bool.not_false, Bool.false_eq_true, if_true, if_false, reduceIte, reduceCtorEq, Option.map_some, Option.getD_some, Option.getD_none, Option.bind_some, Option.some.injEq, Nat.zero_add, isiW, muM, Int.cast_ofNat_Int, Int.ofNat_zero, Int.natCast_one, Int.reduceEq, Int.reduceLT, Int.reduceAdd, Int.reduceSub, decide_true, decide_false, iter_rng1 (n := 6) (i := 6) rfl (by decide)]
    refine wp_for (all := (List.range 6).map fun (k : Nat) => W.int (k : Int)) (fun i ρ => ∃ fd a0 a2 a3 a4 a5 a6 a7 a8 a9 a10 a11 a12 a13 a14 a15 a16 a17 a18 a19, ρ = [a0, some fd, a2, a3, a4, a5, a6, a7, a8, a9, a10, a11, a12, a13, a14, a15, a16, a17, a18, a19] ∧ FeedOk ns fd) (fun i x ρ hx hI => ?_) (fun ρ hI => ?_) _ 0 _ rfl (Nat.zero_le _) ⟨fd, _, _, _, _, _, _, _, _, _, _, _, _, _, _, _, _, _, _, _, rfl, hf⟩
    · obtain ⟨fd, a0, a2, a3, a4, a5, a6, a7, a8, a9, a10, a11, a12, a13, a14, a15, a16, a17, a18, a19, rfl, hf⟩ := hI
      simp -implicitDefEqProofs only [w_law_k01_10, execsQ, execQ, evQ, evsQ, evoQ, evA, argOf, getAs, putAs, asgQ, asgsQ, bindQ, bind_ok, isB_ok, opt_ok, wp_bind, wp_ok, wp_isB, wp_opt, wp_back, back_ok, ofD, wipeQ, backQ, maskQ, atsLen, List.map_cons, List.map_nil, List.cons_append, List.nil_append, List.append_nil, List.take_succ_cons, List.take_zero, Nat.sub_self, Nat.reduceSub, Nat.reduceLT, Nat.reduceLeDiff, Nat.reduceAdd, Nat.reduceEqDiff, List.replicate_zero, List.replicate_succ, List.getElem?_cons_zero, List.getElem?_cons_succ, List.length_cons, List.length_nil, List.set_cons_zero, List.set_cons_succ, Bool.not_true, Bool.not_false, Bool.false_eq_true, if_true, if_false, reduceIte, reduceCtorEq, Option.map_some, Option.getD_some, Option.getD_none, Option.bind_some, Option.some.injEq, Nat.zero_add, isiW, muM, Int.cast_ofNat_Int, Int.ofNat_zero, Int.natCast_one, Int.reduceEq, Int.reduceLT, Int.reduceAdd, Int.reduceSub, decide_true, decide_false, L.gen.key, f_law_key]
      refine law_key_ok L.gen hf (by omega) fun s fd hs hf => ?_
      simp -implicitDefEqProofs only [execsQ, execQ, evQ, evsQ, evoQ, evA, argOf, getAs, putAs, asgQ, asgsQ, bindQ, bind_ok, isB_ok, opt_ok, wp_bind, wp_ok, wp_isB, wp_opt, wp_back, back_ok, ofD, wipeQ, backQ, maskQ, atsLen, List.map_cons, List.map_nil, List.cons_append, List.nil_append, List.append_nil, List.take_succ_cons, List.take_zero, Nat.sub_self, Nat.reduceSub, Nat.reduceLT, Nat.reduceLeDiff, Nat.reduceAdd, Nat.reduceEqDiff, List.replicate_zero, List.replicate_succ, List.getElem?_cons_zero, List.getElem?_cons_succ, List.length_cons, List.length_nil, List.set_cons_zero, List.set_cons_succ, Bool.not_true, Bool.not_false, Bool.false_eq_true, if_true, if_false, reduceIte, reduceCtorEq, Option.map_some, Option.getD_some, Option.getD_none, Option.bind_some, Option.some.injEq, Nat.zero_add, isiW, muM, Int.cast_ofNat_Int, Int.ofNat_zero, Int.natCast_one, Int.reduceEq, Int.reduceLT, Int.reduceAdd, Int.reduceSub, decide_true, decide_false, L.gen.key, f_law_key]
      refine law_key_ok L.gen hf (by omega) fun t fd ht hf => ?_
      simp -implicitDefEqProofs only [execsQ, execQ, evQ, evsQ, evoQ, evA, argOf, getAs, putAs, asgQ, asgsQ, bindQ, bind_ok, isB_ok, opt_ok, wp_bind, wp_ok, wp_isB, wp_opt, wp_back, back_ok, ofD, wipeQ, backQ, maskQ, atsLen, List.map_cons, List.map_nil, List.cons_append, List.nil_append, List.append_nil, List.take_succ_cons, List.take_zero, Nat.sub_self, Nat.reduceSub, Nat.reduceLT, Nat.reduceLeDiff, Nat.reduceAdd, Nat.reduceEqDiff, List.replicate_zero, List.replicate_succ, List.getElem?_cons_zero, List.getElem?_cons_succ, List.length_cons, List.length_nil, List.set_cons_zero, List.set_cons_succ, Bool.not_true, Bool.not_false, Bool.false_eq_true, if_true, if_false, reduceIte, reduceCtorEq, Option.map_some, Option.getD_some, Option.getD_none, Option.bind_some, Option.some.injEq, Nat.zero_add, isiW, muM, Int.cast_ofNat_Int, Int.ofNat_zero, Int.natCast_one, Int.reduceEq, Int.reduceLT, Int.reduceAdd, Int.reduceSub, decide_true, decide_false, and_self]
      exact part1 L hs ht hf (by omega) fun fd a7 a8 a9 a10 a11 a12 a13 a14 a15 a16 hf => ⟨_, _, _, _, _, _, _, _, _, _, _, _, _, _, _, _, _, _, _, _, rfl, hf⟩
    · obtain ⟨fd, a0, a2, a3, a4, a5, a6, a7, a8, a9, a10, a11, a12, a13, a14, a15, a16, a17, a18, a19, rfl, hf⟩ := hI
      simp -implicitDefEqProofs only [t_law_k01_15, execsQ, execQ, evQ, evsQ, evoQ, evA, argOf, getAs, putAs, asgQ, asgsQ, bindQ, bind_ok, isB_ok, opt_ok, wp_bind, wp_ok, wp_isB, wp_opt, wp_back, back_ok, ofD, wipeQ, backQ, maskQ, atsLen, List.map_cons, List.map_nil, List.cons_append, List.nil_append, List.append_nil, List.take_succ_cons, List.take_zero, Nat.sub_self, Nat.reduceSub, Nat.reduceLT, Nat.reduceLeDiff, Nat.reduceAdd, Nat.reduceEqDiff, List.replicate_zero, List.replicate_succ, List.getElem?_cons_zero, List.getElem?_cons_succ, List.length_cons, List.length_nil, List.set_cons_zero, List.set_cons_succ, Bool.not_true, Bool.not_false, Bool.false_eq_true, if_true, if_false, reduceIte, reduceCtorEq, Option.map_some, Option.getD_some, Option.getD_none, Option.bind_some, Option.some.injEq, Nat.zero_add, isiW, muM, Int.cast_ofNat_Int, Int.ofNat_zero, Int.natCast_one, Int.reduceEq, Int.reduceLT, Int.reduceAdd, Int.reduceSub, decide_true, decide_false]
  obtain ⟨a, ρ, e, rfl⟩ := h.ok_of
  exact ⟨ρ, e⟩
end
end Pq
set_option Elab.async false
set_option linter.all false
set_option maxRecDepth 100000
set_option maxHeartbeats 0
open PySem PySem.W PySem.Calls PyProof.Rows
theorem K01.lib : Pq.LK01 K01.QT := ⟨⟨K01.h_is_whole, K01.h_is_key, K01.h_is_value, K01.h_is_thing, K01.h_are_things, K01.h_number_of, K01.h_digits_of⟩, ⟨K01.h_law_is_key, K01.h_law_is_value, K01.h_law_are_things, K01.h_law_is_told⟩, ⟨⟨K01.h_law_feed, K01.h_law_draw⟩, K01.h_law_key, K01.h_law_value, K01.h_law_table⟩, K01.h_law_digits, K01.h_law_any, K01.h_law⟩
theorem K01.runs : ∀ ns : List Int, ns.length ≤ 63 → ∃ S, Pv.call K01.g.T 200 5 "law" [.fzl (ns.map .int)] [] = .ok (.bl true) S := fun ns hl => by
  obtain ⟨os, e⟩ := Pq.law_k01_ok (k := 0) (F := 200) K01.lib hl (by decide)
  have := Pq.run_of K01.QT_ok K01.h_law (by kernel_rfl) e
  rw [K01.T_eq] at this
  exact this
theorem PySem.Challenge.cw_bitshelves_k01_keys_and_their_digits_holds : PySem.Challenge.rw_bitshelves_k01_keys_and_their_digits.Holds := by
  w_on; o_law
  refine HandSHeadRun.head_any (r := OpenLaw.row PySem.Challenge.rw_bitshelves_k01_keys_and_their_digits) (q := view (OpenLaw.row PySem.Challenge.rw_bitshelves_k01_keys_and_their_digits).prog [26]) (H := K01.hk) (ob := K01.ob) (M := 4000) (loose := K01.names) (d := HandSHeadRun.topDef (OpenLaw.row PySem.Challenge.rw_bitshelves_k01_keys_and_their_digits).prog 26) (kwd := []) K01.ob_eq
    (by kernel_rfl) (fun s => by kernel_rfl) K01.run (by kernel_rfl) (by kernel_rfl) (by kernel_rfl) (by rfl) (by first | assumption | decide +kernel) (by decide +kernel) ⟨rfl, rfl, rfl, rfl, rfl, by decide +kernel⟩ ?hw ?hc
  case hw => w_witness2
  case hc =>
    exact Pv.walk_pv (l := PySem.Challenge.rw_bitshelves_k01_keys_and_their_digits) (n := 63) (k := 5) (nm := "law") rfl (by decide) (by kernel_rfl) ⟨rfl, by decide, by decide⟩ K01.all_in (by kernel_rfl) (b := ⟨1, Pq.n_law_k01.length, Pq.b_law_k01⟩) (by kernel_rfl) rfl K01.runs
