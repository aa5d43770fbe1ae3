import PyProof.Rows.All
import HandS.ForMost
import HandS.ForExc
import KE.KDictKeyed
import HandS.HeadHook2
import HandS.More
import HandS.Defaults
import HandS.ExcField
import KE.SortData
import PyProof.ReprReads
import HandS.TupAny
import HandS.TupMul
import HandS.Style
import HandS.Flow
import HandS.Deep
import HandS.IsInst
import KE.KRevSl
import HandS.CallSlots
import KE.GoesNew
import HandS.Iter
import HandS.ExcInit
import HandS.TryMany
import KE.KExcSuper
import HandS.Codes
import KE.KeyNested
import HandS.DictComp
import PyProof.DictTable
import KE.KDictList
import KE.KDictCopyH
import KE.GoesDict
import HandS.TupLen
import KE.KDictPairs
import KE.GoesNewDict
import HandS.DictTup
import KE.KDictSum
import PyProof.ReprRoads
import PyProof.CallFns
import HandS.Head2
import HandS.HeadEnd
import HandS.HotCalls
import HandS.ExcBuiltin
import KE.KExcIs
import PyProof.ReprLen
import PyProof.P3Eq
import PySem.Challenge.RW_treeasked_k00_errors_and_limits
set_option Elab.async false
set_option linter.all false
set_option maxRecDepth 100000
/-! TA1: pure data, the small language, what it computes (weakest preconditions). -/
namespace TA
open PySem

/-- data: tuples are pure values, lists and dicts stand in the store -/
inductive D where
  | non | bl (b : Bool) | int (i : Int) | str (x : Str) | tup (xs : List D) | ref (a : Addr)
  deriving Inhabited
/-- how a dict's object stands (its entries): nobody asks, but a walk over the dict needs it unchanged -/
abbrev Gh : Type := List DictEntry × Nat
/-- what stands in the store -/
inductive SO where
  | lst (xs : List D) | dct (kvs : List (D × D)) (g : Gh) | ins (c : Str) (fs : List (Str × D)) | fzl (xs : List D)
abbrev Sto := Addr → Option SO
def put (S : Sto) (a : Addr) (o : SO) : Sto := fun b => if b = a then some o else S b
theorem put_same {S : Sto} {a : Addr} {o : SO} : put S a o a = some o := if_pos rfl
theorem put_ne {S : Sto} {a b : Addr} {o : SO} (h : b ≠ a) : put S a o b = S b := if_neg h
theorem put_put {S : Sto} {a : Addr} {o u : SO} : put (put S a o) a u = put S a u := by
  funext b; unfold put; split <;> rfl
def emp : Sto := fun _ => none
abbrev Env := List (Option D)

/-! ### data as the library's data -/
mutual
def toP (f : Addr → Option PyData) : D → Option PyData
  | .non => some .none
  | .bl b => some (.bool b)
  | .int i => some (.int i)
  | .str x => some (.str x)
  | .tup xs => (toPs f xs).map .tuple
  | .ref a => f a
def toPs (f : Addr → Option PyData) : List D → Option (List PyData)
  | [] => some []
  | x :: r => match toP f x, toPs f r with
    | some p, some q => some (p :: q)
    | _, _ => none
end
def refP (S : Sto) : Nat → Addr → Option PyData
  | 0, _ => none
  | n + 1, a => match S a with
    | some (.lst xs) => (toPs (refP S n) xs).map .list
    | _ => none
/-- lists up to six within one another -/
def pd (S : Sto) (d : D) : Option PyData := toP (refP S 6) d

/-! ### the language -/
inductive Bi where
  | len | all | any | sum | min1 | max1 | min2 | max2 | sorted | tuple | list | dict0 | dict | abs | int | repr | str
  deriving DecidableEq
inductive Me where
  | append | pop | update | get1 | get2 | setdefault | items | join | dpop2
  deriving DecidableEq
inductive Ty where
  | int | bool | str | tuple | list | dict
  deriving DecidableEq
mutual
inductive IE where
  | var (i : Nat)
  | con (d : D)
  | efld (x : Str)
  | eis (c : Str)
  | tup (es : IEs)
  | lst (es : IEs)
  | dct (ks vs : IEs)
  | bin (op : Operator) (a b : IE)
  | neg (a : IE)
  | nt (a : IE)
  | an (a b : IE)
  | or (a b : IE)
  | cmp (op : CmpOp) (a b : IE)
  | cmp2 (o1 o2 : CmpOp) (a b c : IE)
  | ite (c : IB) (a b : IE)
  | idx (a b : IE)
  | slc (a lo hi : IE)
  | rev (a : IE)
  | slr (a hi : IE)
  | fn (i : Nat) (es : IEs)
  | bi (b : Bi) (es : IEs)
  | isi (a : IE) (t : Ty)
  | mt (m : Me) (o : IE) (es : IEs)
  | lc (vs : List Nat) (t : IT) (it : II) (c : IB) (e : IE)
  | lc2 (vs vs1 : List Nat) (t : IT) (it : II) (c : IB) (t1 : IT) (it1 : II) (c1 : IB) (e : IE)
  | dc (vs : List Nat) (t : IT) (it : II) (c : IB) (k v : IE)
  | fld (o : IE) (x : Str)
inductive IEs where
  | nil
  | cons (e : IE) (r : IEs)
inductive II where
  | ev (e : IE)
  | rng (es : IEs)
  | enu (e : IE)
  | zip (a b : IE)
  | items (e : IE)
inductive IB where
  | tr (e : IE)
  | yes
  | nt (b : IB)
  | an (a b : IB)
  | or (a b : IB)
  | cmp (op : CmpOp) (a b : IE)
  | cmp2 (o1 o2 : CmpOp) (a b c : IE)
inductive IT where
  | nam (i : Nat)
  | tup (ts : ITs)
inductive ITs where
  | nil
  | cons (t : IT) (r : ITs)
end
mutual
inductive IS where
  | asg (t : IT) (e : IE)
  | asub (o i e : IE)
  | afld (o : IE) (x : Str) (e : IE)
  | aug (i : Nat) (op : Operator) (e : IE)
  | augf (o : IE) (x : Str) (op : Operator) (e : IE)
  | ex (e : IE)
  | ret (e : IE)
  | iff (c : IB) (a b : ISs)
  | whl (c : IB) (b : ISs)
  | frr (t : IT) (it : II) (b : ISs)
  | rse (c : Str) (es : IEs)
  | trn (b : ISs) (hs : IHs)
  | pas | brk | cnt
inductive ISs where
  | nil
  | cons (s : IS) (r : ISs)
inductive IHs where
  | nil
  | cons (c : Str) (n : Option Nat) (h : ISs) (r : IHs)
end

/-! ### operators -/
def line : Nat := sizeLine
def smul (i j : Int) : Prop := (-(2 ^ 64) < i ∧ i < 2 ^ 64) ∨ (-(2 ^ 64) < j ∧ j < 2 ^ 64)
abbrev DK := D → Sto → Prop
def reps {α : Type} (k : Int) (xs : List α) : List α := (List.replicate k.toNat xs).flatten
/-- a text, so often -/
def repS (x : Str) (k : Int) : Str := ⟨(List.replicate k.toNat x.cps).foldl (· ++ ·) #[]⟩
def opD : Operator → D → D → Sto → DK → Prop
  | .Add, .int i, .int j, S, Q => Q (.int (i + j)) S
  | .Add, .str x, .str y, S, Q => x.length + y.length ≤ line ∧ Q (.str (x ++ y)) S
  | .Add, .tup xs, .tup ys, S, Q => xs.length + ys.length ≤ line ∧ Q (.tup (xs ++ ys)) S
  | .Add, .ref a, .ref b, S, Q => ∃ xs ys, S a = some (.lst xs) ∧ S b = some (.lst ys) ∧ xs.length + ys.length ≤ line ∧ ∀ p, S p = none → Q (.ref p) (put S p (.lst (xs ++ ys)))
  | .Sub, .int i, .int j, S, Q => Q (.int (i - j)) S
  | .Mult, .int i, .int j, S, Q => smul i j ∧ Q (.int (i * j)) S
  | .Mult, .str x, .int k, S, Q => (2 ≤ k ∧ k ≤ 1000000 ∧ x.length ≠ 0 ∧ x.length * k.toNat ≤ line) ∧ Q (.str (repS x k)) S
  | .Mult, .tup xs, .int k, S, Q => k ≤ 1000000 ∧ -(2 ^ 63) ≤ k ∧ xs.length * k.toNat ≤ line ∧ Q (.tup (reps k xs)) S
  | .Mult, .ref a, .int k, S, Q => ∃ xs, S a = some (.lst xs) ∧ -(2 ^ 63) ≤ k ∧ k < 2 ^ 63 ∧ xs.length * k.toNat ≤ line ∧ ∀ p, S p = none → Q (.ref p) (put S p (.lst (reps k xs)))
  | .FloorDiv, .int i, .int j, S, Q => (j ≠ 0 ∧ j.natAbs < 1073741824) ∧ Q (.int (i.fdiv j)) S
  | .Mod, .int i, .int j, S, Q => j ≠ 0 ∧ Q (.int (i.fmod j)) S
  | .Pow, .int i, .int j, S, Q => (0 ≤ j ∧ j ≤ 1000000 ∧ i.natAbs < 2 ^ 64) ∧ Q (.int (i ^ j.toNat)) S
  | _, _, _, _, _ => False
/-- x op= y at a name -/
def ipD : Operator → D → D → Sto → DK → Prop
  | .Add, .ref a, .ref b, S, Q => ∃ xs ys, S a = some (.lst xs) ∧ S b = some (.lst ys) ∧ xs.length + ys.length ≤ line ∧ Q (.ref a) (put S a (.lst (xs ++ ys)))
  | .Add, .int i, .int j, S, Q => Q (.int (i + j)) S
  | .Add, .str x, .str y, S, Q => x.length + y.length ≤ line ∧ Q (.str (x ++ y)) S
  | .Sub, .int i, .int j, S, Q => Q (.int (i - j)) S
  | _, _, _, _, _ => False
/-- truth -/
def truD (S : Sto) : D → (Bool → Prop) → Prop
  | .non, Q => Q false
  | .bl b, Q => Q b
  | .int i, Q => Q (i != 0)
  | .str x, Q => x.length ≤ line ∧ Q ((x.length : Int) != 0)
  | .tup xs, Q => Q (!xs.isEmpty)
  | .ref a, Q => match S a with
    | some (.lst xs) => Q (!xs.isEmpty)
    | _ => False
def isNon : D → Bool
  | .non => true
  | _ => false
/-- the items that 'in' looks at; two data are equal -/
def eqD (S : Sto) (x y : D) (Q : Bool → Prop) : Prop := ∃ p q, pd S x = some p ∧ pd S y = some q ∧ SeqAt.shaped p = true ∧ SeqAt.shaped q = true ∧ Q (PyData.eqv p q)
mutual
def nk : D → NestedKey
  | .non => .none
  | .bl b => .num (if b = true then 1 else 0)
  | .int i => .num i
  | .str x => .text x
  | .tup xs => .tup (nks xs)
  | .ref _ => .none
def nks : List D → List NestedKey
  | [] => []
  | x :: r => nk x :: nks r
end
/-- the value at a key -/
def keyD (k : D) : List (D × D) → Option D
  | [] => none
  | (k', v) :: r => if nk k' = nk k then some v else keyD k r
def putK (k v : D) : List (D × D) → List (D × D)
  | [] => [(k, v)]
  | (k', v') :: r => if nk k' = nk k then (k', v) :: r else (k', v') :: putK k v r
mutual
def keyN : D → Bool
  | .tup xs => keyNs xs
  | .ref _ => false
  | _ => true
def keyNs : List D → Bool
  | [] => true
  | x :: r => keyN x && keyNs r
end
/-- what may be a key: no lists, no dicts, not too deep -/
def keyOk (k : D) : Bool := keyN k && decide ((nk k).depth ≤ 8)
def isTupD : D → Bool
  | .tup _ => true
  | _ => false
def isFlatD : D → Bool
  | .int _ => true
  | .str _ => true
  | _ => false
/-- all keys tuples, or all ints and texts -/
def allTup (kvs : List (D × D)) : Bool := kvs.all fun p => isTupD p.1
def allFlat (kvs : List (D × D)) : Bool := kvs.all fun p => isFlatD p.1
/-- the key goes with the dict's keys -/
def fitK (k : D) (kvs : List (D × D)) : Bool := keyOk k && ((isTupD k && allTup kvs) || (isFlatD k && allFlat kvs))
def inD (S : Sto) (x : D) : D → (Bool → Prop) → Prop
  | .tup ys, Q => ∃ p qs, pd S x = some p ∧ toPs (refP S 6) ys = some qs ∧ SeqAt.shaped p = true ∧ PyData.canLayAll0 qs = true ∧ Q (qs.any fun y => PyData.eqv y p)
  | .str y, Q => ∃ z, x = .str z ∧ Q (!(Builtin.Str.occurrences y z 0 y.length 1).isEmpty)
  | .ref a, Q => match S a with
    | some (.lst ys) => ∃ p qs, pd S x = some p ∧ toPs (refP S 6) ys = some qs ∧ SeqAt.shaped p = true ∧ PyData.canLayAll0 qs = true ∧ Q (qs.any fun y => PyData.eqv y p)
    | some (.dct kvs _) => fitK x kvs = true ∧ Q (keyD x kvs).isSome
    | _ => False
  | _, _ => False
def ltD (x y : D) (Q : Bool → Prop) : Prop := match x, y with
  | .int i, .int j => Q (decide (i < j))
  | .str a, .str b => Q (decide (a.cps.toList < b.cps.toList))
  | _, _ => False
def cmpD : CmpOp → D → D → Sto → (Bool → Prop) → Prop
  | .Eq, x, y, S, Q => eqD S x y Q
  | .NotEq, x, y, S, Q => eqD S x y fun b => Q (!b)
  | .Is, x, .non, _, Q => Q (isNon x)
  | .IsNot, x, .non, _, Q => Q (!isNon x)
  | .In, x, y, S, Q => inD S x y Q
  | .NotIn, x, y, S, Q => inD S x y fun b => Q (!b)
  | .Lt, .int i, .int j, _, Q => Q (decide (i < j))
  | .LtE, .int i, .int j, _, Q => Q (decide (i ≤ j))
  | .Gt, .int i, .int j, _, Q => Q (decide (j < i))
  | .GtE, .int i, .int j, _, Q => Q (decide (j ≤ i))
  | .Lt, .str i, .str j, _, Q => Q (decide (i.cps.toList < j.cps.toList))
  | _, _, _, _, _ => False
/-- the place that an index means -/
def ixD {α : Type} (xs : List α) (i : Int) : Option α := if 0 ≤ i then xs[i.toNat]? else if -(xs.length : Int) ≤ i then xs[(i + xs.length).toNat]? else none
/-- a slice's ends: None or an int -/
def partD : D → Option (Option Int)
  | .non => some none
  | .int i => some (some i)
  | _ => none
def sIx (n d : Nat) : Option Int → Nat
  | none => d
  | some v => if v < 0 then (v + (n : Int)).toNat else min v.toNat n
def cutD {α : Type} (xs : List α) (lo hi : Option Int) : List α := (xs.drop (sIx xs.length 0 lo)).take (sIx xs.length xs.length hi - sIx xs.length 0 lo)
end TA
set_option Elab.async false
set_option linter.all false
set_option maxRecDepth 100000
/-! TA2: weakest preconditions of the small language. -/
namespace TA
open PySem

abbrev EX := Str → List (Str × D) → Sto → Prop
abbrev DSp := List D → Sto → DK → EX → Prop
abbrev LK := List D → Sto → Prop
abbrev BK := Bool → Sto → Prop

/-! ### built-ins -/
def encD (d : D) : PyData := (pd emp d).getD .none
def leP (x y : D) : Bool := !PySem.W.dataLt (encD y) (encD x)
/-- the items of what is walked or listed -/
def seqD (S : Sto) : D → Option (List D)
  | .tup xs => some xs
  | .ref a => match S a with
    | some (.lst xs) => some xs
    | some (.dct kvs _) => some (kvs.map (·.1))
    | _ => none
  | _ => none
/-- a list's or a tuple's items -/
def seqT (S : Sto) : D → Option (List D)
  | .tup xs => some xs
  | .ref a => match S a with
    | some (.lst xs) => some xs
    | _ => none
  | _ => none
def boolsD : List D → Option (List Bool)
  | [] => some []
  | .bl b :: r => (boolsD r).map (b :: ·)
  | _ :: _ => none
def intsD : List D → Option (List Int)
  | [] => some []
  | .int i :: r => (intsD r).map (i :: ·)
  | _ :: _ => none
def strsD : List D → Option (List Str)
  | [] => some []
  | .str i :: r => (strsD r).map (i :: ·)
  | _ :: _ => none
def mergeKs (a b : List (D × D)) : List (D × D) := b.foldl (fun acc p => putK p.1 p.2 acc) a
def pairs : List D → Option (List (D × D))
  | [] => some []
  | .tup [k, v] :: r => (pairs r).map ((k, v) :: ·)
  | _ :: _ => none
def lenD (S : Sto) : D → (Int → Prop) → Prop
  | .str x, Q => x.length ≤ line ∧ Q x.length
  | .tup xs, Q => Q xs.length
  | .ref a, Q => match S a with
    | some (.lst xs) => Q xs.length
    | some (.dct kvs _) => Q kvs.length
    | _ => False
  | _, _ => False
def reprOk (S : Sto) (d : D) (Q : Str → Prop) : Prop := ∃ p, pd S d = some p ∧ SeqAt.shaped p = true ∧ p.showable = true ∧ p.shown.length ≤ line ∧ Q p.shown
def one (ds : List D) (f : D → Prop) : Prop := match ds with
  | [x] => f x
  | _ => False
def two (ds : List D) (f : D → D → Prop) : Prop := match ds with
  | [x, y] => f x y
  | _ => False
/-- a list of the store -/
def refL (S : Sto) (x : D) (f : List D → Prop) : Prop := match x with
  | .ref a => match S a with
    | some (.lst xs) => f xs
    | _ => False
  | _ => False
def refK (S : Sto) (x : D) (f : List (D × D) → Prop) : Prop := match x with
  | .ref a => match S a with
    | some (.dct xs _) => f xs
    | _ => False
  | _ => False
def onI (x : D) (f : Int → Prop) : Prop := match x with
  | .int i => f i
  | _ => False
def fresh (S : Sto) (o : SO) (Q : DK) : Prop := ∀ p, S p = none → Q (.ref p) (put S p o)
def freshK (S : Sto) (kvs : List (D × D)) (Q : DK) : Prop := ∀ p g, S p = none → Q (.ref p) (put S p (.dct kvs g))
def biD : Bi → List D → Sto → DK → Prop
  | .len, ds, S, Q => one ds fun x => lenD S x fun n => Q (.int n) S
  | .all, ds, S, Q => one ds fun x => refL S x fun xs => ∃ bs, boolsD xs = some bs ∧ Q (.bl (bs.all id)) S
  | .any, ds, S, Q => one ds fun x => refL S x fun xs => ∃ bs, boolsD xs = some bs ∧ Q (.bl (bs.any id)) S
  | .sum, ds, S, Q => one ds fun x => refL S x fun xs => ∃ ns, intsD xs = some ns ∧ Q (.int ns.sum) S
  | .min1, ds, S, Q => one ds fun x => refL S x fun xs => ∃ ns, intsD xs = some ns ∧ ns ≠ [] ∧ ∀ m ∈ ns, (∀ n ∈ ns, m ≤ n) → Q (.int m) S
  | .max1, ds, S, Q => one ds fun x => refL S x fun xs => ∃ ns, intsD xs = some ns ∧ ns ≠ [] ∧ ∀ m ∈ ns, (∀ n ∈ ns, n ≤ m) → Q (.int m) S
  | .min2, ds, S, Q => two ds fun x y => onI x fun i => onI y fun j => Q (.int (if j < i then j else i)) S
  | .max2, ds, S, Q => two ds fun x y => onI x fun i => onI y fun j => Q (.int (if j > i then j else i)) S
  | .sorted, ds, S, Q => one ds fun x => ∃ xs ps, seqD S x = some xs ∧ toPs (refP emp 0) xs = some ps ∧ PySem.W.AllAlike ps ∧ (∀ p ∈ ps, SeqAt.shaped p = true ∧ p ≠ .none) ∧ fresh S (.lst (xs.mergeSort leP)) Q
  | .tuple, ds, S, Q => one ds fun x => ∃ xs, seqT S x = some xs ∧ Q (.tup xs) S
  | .list, ds, S, Q => one ds fun x => ∃ xs, seqD S x = some xs ∧ fresh S (.lst xs) Q
  | .dict0, ds, S, Q => ds = [] ∧ freshK S [] Q
  | .dict, ds, S, Q => one ds fun x => refL S x fun xs => ∃ kvs, pairs xs = some kvs ∧ (kvs.all fun p => keyOk p.1) = true ∧ (allTup kvs || allFlat kvs) = true ∧ freshK S (mergeKs [] kvs) Q
  | .abs, ds, S, Q => one ds fun x => onI x fun i => Q (.int (if i < 0 then -i else i)) S
  | .int, ds, S, Q => one ds fun x => onI x fun i => Q (.int i) S
  | .repr, ds, S, Q => one ds fun x => reprOk S x fun t => Q (.str t) S
  | .str, ds, S, Q => one ds fun x => onI x fun i => i.natAbs.log2 < 1920 ∧ Q (.str (toString i)) S
def addr (o : D) (f : Addr → Prop) : Prop := match o with
  | .ref a => f a
  | _ => False
def atL (S : Sto) (a : Addr) (f : List D → Prop) : Prop := match S a with
  | some (.lst xs) => f xs
  | _ => False
def atK (S : Sto) (a : Addr) (f : List (D × D) → Prop) : Prop := match S a with
  | some (.dct xs _) => f xs
  | _ => False
def mtD : Me → D → List D → Sto → DK → Prop
  | .append, o, ds, S, Q => addr o fun a => one ds fun y => atL S a fun xs => xs.length < line ∧ Q .non (put S a (.lst (xs ++ [y])))
  | .pop, o, ds, S, Q => ds = [] ∧ addr o fun a => atL S a fun zs => ∃ xs y, zs = xs ++ [y] ∧ Q y (put S a (.lst xs))
  | .update, o, ds, S, Q => addr o fun a => one ds fun y => addr y fun b => atK S a fun k1 => atK S b fun k2 => a ≠ b ∧ k1 ≠ [] ∧ k1.length + k2.length ≤ line ∧ ((allTup k1 && allTup k2) || (allFlat k1 && allFlat k2)) = true ∧ ∀ g, Q .non (put S a (.dct (mergeKs k1 k2) g))
  | .get1, o, ds, S, Q => addr o fun a => one ds fun k => atK S a fun kvs => fitK k kvs = true ∧ Q ((keyD k kvs).getD .non) S
  | .get2, o, ds, S, Q => addr o fun a => two ds fun k d => atK S a fun kvs => fitK k kvs = true ∧ Q ((keyD k kvs).getD d) S
  | _, _, _, _, _ => False
/-- what a method is asked of -/
def recvD : Me → D → Sto → Prop
  | .append, o, S => refL S o fun _ => True
  | .pop, o, S => refL S o fun _ => True
  | .join, o, _ => match o with
    | .str _ => True
    | _ => False
  | _, o, S => refK S o fun _ => True
def idxD (x i : D) (S : Sto) (Q : DK) : Prop := match x, i with
  | .tup xs, .int k => match ixD xs k with
    | some y => Q y S
    | none => False
  | .str z, .int k => z.length ≤ line ∧ match ixD z.cps.toList k with
    | some c => Q (.str ⟨#[c]⟩) S
    | none => False
  | .ref a, k => match S a, k with
    | some (.lst xs), .int k => match ixD xs k with
      | some y => Q y S
      | none => False
    | some (.dct kvs _), k => fitK k kvs = true ∧ match keyD k kvs with
      | some y => Q y S
      | none => False
    | _, _ => False
  | _, _ => False
def slcD (x : D) (l u : Option Int) (S : Sto) (Q : DK) : Prop := match x with
  | .tup xs => Q (.tup (cutD xs l u)) S
  | .str z => z.length ≤ line ∧ Q (.str ⟨(cutD z.cps.toList l u).toArray⟩) S
  | .ref a => ∃ xs, (S a = some (.lst xs) ∨ S a = some (.fzl xs)) ∧ ∀ p, S p = none → Q (.ref p) (put S p (.lst (cutD xs l u)))
  | _ => False
def revD (x : D) (S : Sto) (Q : DK) : Prop := match x with
  | .tup xs => Q (.tup xs.reverse) S
  | .ref a => ∃ xs, S a = some (.lst xs) ∧ ∀ p, S p = none → Q (.ref p) (put S p (.lst xs.reverse))
  | _ => False
/-- x[:k:-1] with k from 0 on -/
def slrD (x k : D) (S : Sto) (Q : DK) : Prop := match k, x with
  | .int k, .tup xs => 0 ≤ k ∧ Q (.tup (xs.drop (k.toNat + 1)).reverse) S
  | .int k, .ref a => 0 ≤ k ∧ ∃ xs, S a = some (.lst xs) ∧ ∀ p, S p = none → Q (.ref p) (put S p (.lst (xs.drop (k.toNat + 1)).reverse))
  | _, _ => False
def tyB (S : Sto) : D → Ty → Option Bool
  | .non, _ => some false
  | .bl _, t => some (t == .bool || t == .int)
  | .int _, t => some (t == .int)
  | .str _, t => some (t == .str)
  | .tup _, t => some (t == .tuple)
  | .ref a, t => match S a with
    | some (.lst _) => some (t == .list)
    | _ => none
def fldD (o : D) (x : Str) (S : Sto) (Q : DK) : Prop := match o with
  | .ref a => ∃ c fs d, S a = some (.ins c fs) ∧ fs.lookup x = some d ∧ Q d S
  | _ => False
def subD (o i v : D) (S : Sto) (Q : Sto → Prop) : Prop := match o with
  | .ref a => match S a, i with
    | some (.lst xs), .int k => ∃ j : Nat, (if 0 ≤ k then k = j else k + xs.length = j) ∧ j < xs.length ∧ Q (put S a (.lst (xs.set j v)))
    | some (.dct kvs _), k => fitK k kvs = true ∧ kvs.length < line ∧ ∀ g, Q (put S a (.dct (putK k v kvs) g))
    | _, _ => False
  | _ => False
def putF (x : Str) (v : D) : List (Str × D) → List (Str × D)
  | [] => [(x, v)]
  | (g, y) :: r => if g = x then (g, v) :: r else (g, y) :: putF x v r

/-! ### what is walked -/
structure Src where
  items : List D
  chk : Sto → Prop
def iterD (x : D) (S : Sto) (Q : Src → Prop) : Prop := match x with
  | .tup xs => Q ⟨xs, fun _ => True⟩
  | .str z => z.length ≤ line ∧ Q ⟨z.cps.toList.map fun c => .str ⟨#[c]⟩, fun _ => True⟩
  | .ref a => match S a with
    | some (.lst xs) => Q ⟨xs, fun S' => S' a = some (.lst xs)⟩
    | some (.dct kvs g) => Q ⟨kvs.map (·.1), fun S' => S' a = some (.dct kvs g)⟩
    | _ => False
  | _ => False
/-- a list or a tuple -/
def iterT (x : D) (S : Sto) (Q : Src → Prop) : Prop := match x with
  | .tup xs => Q ⟨xs, fun _ => True⟩
  | .ref a => match S a with
    | some (.lst xs) => Q ⟨xs, fun S' => S' a = some (.lst xs)⟩
    | _ => False
  | _ => False
def rngs (lo hi : Int) : List D := (List.range (hi - lo).toNat).map fun (k : Nat) => .int (lo + k)
def rngD (ds : List D) (Q : Src → Prop) : Prop := match ds with
  | [.int j] => -(2 ^ 62) ≤ j ∧ j < line ∧ Q ⟨rngs 0 j, fun _ => True⟩
  | [.int i, .int j] => (-(2 ^ 62) ≤ i ∧ i < 2 ^ 62 ∧ -(2 ^ 62) ≤ j ∧ j < 2 ^ 62 ∧ j - i ≤ line) ∧ Q ⟨rngs i j, fun _ => True⟩
  | [.int i, .int j, .int (-1)] => (-(2 ^ 62) ≤ i ∧ i < 2 ^ 62 ∧ -(2 ^ 62) ≤ j ∧ j < 2 ^ 62 ∧ i - j ≤ line) ∧ Q ⟨(List.range (i - j).toNat).map fun (k : Nat) => .int (i - k), fun _ => True⟩
  | _ => False
def enums : Nat → List D → List D
  | _, [] => []
  | n, x :: r => .tup [.int n, x] :: enums (n + 1) r
def zips : List D → List D → List D
  | x :: r, y :: q => .tup [x, y] :: zips r q
  | _, _ => []
def itemsD (x : D) (S : Sto) (Q : Src → Prop) : Prop := match x with
  | .ref a => match S a with
    | some (.dct kvs g) => Q ⟨kvs.map fun p => .tup [p.1, p.2], fun S' => S' a = some (.dct kvs g)⟩
    | _ => False
  | _ => False

/-! ### targets -/
mutual
def wpT : IT → D → Env → (Env → Prop) → Prop
  | .nam i, v, σ, Q => Q (σ.set i (some v))
  | .tup ts, v, σ, Q => match v with
    | .tup vs => wpTs ts vs σ Q
    | _ => False
def wpTs : ITs → List D → Env → (Env → Prop) → Prop
  | .nil, [], σ, Q => Q σ
  | .cons t r, v :: vs, σ, Q => wpT t v σ fun σ' => wpTs r vs σ' Q
  | _, _, _, _ => False
end

/-! ### comprehensions -/
def wipe (σ : Env) : List Nat → Env
  | [] => σ
  | v :: vs => (wipe σ vs).set v none
def lcD (chk : Sto → Prop) (tgt : D → (Env → Prop) → Prop) (test : Env → Sto → BK → Prop) (elt : Env → Sto → List D → LK → Prop) : List D → List D → Sto → LK → Prop
  | [], acc, S, Q => chk S ∧ Q acc S
  | x :: r, acc, S, Q => chk S ∧ tgt x fun σ1 => test σ1 S fun b S1 => if b = true then elt σ1 S1 acc (fun acc' S2 => lcD chk tgt test elt r acc' S2 Q) else lcD chk tgt test elt r acc S1 Q
/-- a dict comprehension -/
def dcD (chk : Sto → Prop) (tgt : D → (Env → Prop) → Prop) (test : Env → Sto → BK → Prop) (ek ev : Env → Sto → DK → Prop) : List D → List (D × D) → Sto → (List (D × D) → Sto → Prop) → Prop
  | [], acc, S, Q => chk S ∧ Q acc S
  | x :: r, acc, S, Q => chk S ∧ tgt x fun σ1 => test σ1 S fun b S1 => if b = true then ek σ1 S1 (fun k S2 => ev σ1 S2 fun v S3 => fitK k acc = true ∧ acc.length < line ∧ dcD chk tgt test ek ev r (putK k v acc) S3 Q) else dcD chk tgt test ek ev r acc S1 Q

/-- the classes of errors: a class, those that it is of -/
def above : Str → List Str := fun c =>
  if c = "TextError" ∨ c = "LogError" ∨ c = "CommandError" then [c, "TreeError", "ValueError"] else [c, "ReasonError", "TreeError", "ValueError"]
def noE : EX := fun _ _ _ => False

mutual
def wpE (Γ : List DSp) (fs : List (Str × D)) : IE → EX → Env → Sto → DK → Prop
  | .var i, _, σ, S, Q => match σ[i]? with
    | some (some d) => Q d S
    | _ => False
  | .con d, _, _, S, Q => Q d S
  | .efld x, _, _, S, Q => match fs.lookup x with
    | some d => Q d S
    | none => False
  | .eis c, _, _, S, Q => match fs.lookup ("__class__" : Str) with
    | some (D.str c') => Q (.bl (decide (c ∈ above c'))) S
    | _ => False
  | .tup es, E, σ, S, Q => wpEs Γ fs es E σ S fun ds S1 => Q (.tup ds) S1
  | .lst es, E, σ, S, Q => wpEs Γ fs es E σ S fun ds S1 => ∀ p, S1 p = none → Q (.ref p) (put S1 p (.lst ds))
  | .dct ks vs, E, σ, S, Q => wpEs Γ fs ks E σ S fun dk S1 => wpEs Γ fs vs E σ S1 fun dv S2 => (dk.all fun k => keyOk k && (isTupD k || isFlatD k)) = true ∧ freshK S2 (mergeKs [] (dk.zip dv)) Q
  | .bin op a b, E, σ, S, Q => wpE Γ fs a E σ S fun x S1 => wpE Γ fs b E σ S1 fun y S2 => opD op x y S2 Q
  | .neg a, E, σ, S, Q => wpE Γ fs a E σ S fun x S1 => match x with
    | .int i => Q (.int (-i)) S1
    | _ => False
  | .nt a, E, σ, S, Q => wpE Γ fs a E σ S fun x S1 => truD S1 x fun k => Q (.bl (!k)) S1
  | .an a b, E, σ, S, Q => wpE Γ fs a E σ S fun x S1 => truD S1 x fun k => if k = true then wpE Γ fs b E σ S1 Q else Q x S1
  | .or a b, E, σ, S, Q => wpE Γ fs a E σ S fun x S1 => truD S1 x fun k => if k = true then Q x S1 else wpE Γ fs b E σ S1 Q
  | .cmp op a b, E, σ, S, Q => wpE Γ fs a E σ S fun x S1 => wpE Γ fs b E σ S1 fun y S2 => cmpD op x y S2 fun k => Q (.bl k) S2
  | .cmp2 o1 o2 a b c, E, σ, S, Q => wpE Γ fs a E σ S fun x S1 => wpE Γ fs b E σ S1 fun y S2 => cmpD o1 x y S2 fun k => if k = true then wpE Γ fs c E σ S2 fun z S3 => cmpD o2 y z S3 fun k2 => Q (.bl k2) S3 else Q (.bl false) S2
  | .ite c a b, E, σ, S, Q => wpB Γ fs c E σ S fun k S1 => if k = true then wpE Γ fs a E σ S1 Q else wpE Γ fs b E σ S1 Q
  | .idx a b, E, σ, S, Q => wpE Γ fs a E σ S fun x S1 => wpE Γ fs b E σ S1 fun y S2 => idxD x y S2 Q
  | .slc a lo hi, E, σ, S, Q => wpE Γ fs a E σ S fun x S1 => wpE Γ fs lo E σ S1 fun l S2 => ∃ l', partD l = some l' ∧ wpE Γ fs hi E σ S2 fun u S3 => ∃ u', partD u = some u' ∧ slcD x l' u' S3 Q
  | .rev a, E, σ, S, Q => wpE Γ fs a E σ S fun x S1 => revD x S1 Q
  | .slr a hi, E, σ, S, Q => wpE Γ fs a E σ S fun x S1 => wpE Γ fs hi E σ S1 fun u S2 => slrD x u S2 Q
  | .fn i es, E, σ, S, Q => wpEs Γ fs es E σ S fun ds S1 => match Γ[i]? with
    | some sp => sp ds S1 Q E
    | none => False
  | .bi b es, E, σ, S, Q => wpEs Γ fs es E σ S fun ds S1 => biD b ds S1 Q
  | .isi a t, E, σ, S, Q => wpE Γ fs a E σ S fun x S1 => match tyB S1 x t with
    | some k => Q (.bl k) S1
    | none => False
  | .mt m o es, E, σ, S, Q => wpE Γ fs o E σ S fun x S1 => recvD m x S1 ∧ wpEs Γ fs es E σ S1 fun ds S2 => mtD m x ds S2 Q
  | .lc vs t it c e, E, σ, S, Q => wpI Γ fs it E σ S fun src S1 => lcD src.chk (fun x K => wpT t x (wipe σ vs) K) (fun σ1 S K => wpB Γ fs c noE σ1 S K) (fun σ1 S acc K => wpE Γ fs e noE σ1 S fun y S' => K (acc ++ [y]) S') src.items [] S1
      fun ys S2 => ∀ p, S2 p = none → Q (.ref p) (put S2 p (.lst ys))
  | .lc2 vs vs1 t it c t1 it1 c1 e, E, σ, S, Q => wpI Γ fs it E σ S fun src S1 => lcD src.chk (fun x K => wpT t x (wipe σ vs) K) (fun σ1 S K => wpB Γ fs c noE σ1 S K)
      (fun σ1 S acc K => wpI Γ fs it1 noE σ1 S fun src1 S' => lcD src1.chk (fun x K => wpT t1 x (wipe σ1 vs1) K) (fun σ2 S K => wpB Γ fs c1 noE σ2 S K) (fun σ2 S acc K => wpE Γ fs e noE σ2 S fun y S' => acc.length < line ∧ K (acc ++ [y]) S') src1.items acc S' K) src.items [] S1
      fun ys S2 => ∀ p, S2 p = none → Q (.ref p) (put S2 p (.lst ys))
  | .dc vs t it c k v, E, σ, S, Q => wpI Γ fs it E σ S fun src S1 => dcD src.chk (fun x K => wpT t x (wipe σ vs) K) (fun σ1 S K => wpB Γ fs c noE σ1 S K) (fun σ1 S K => wpE Γ fs k noE σ1 S K) (fun σ1 S K => wpE Γ fs v noE σ1 S K) src.items [] S1
      fun kvs S2 => freshK S2 kvs Q
  | .fld o x, E, σ, S, Q => wpE Γ fs o E σ S fun y S1 => fldD y x S1 Q
def wpEs (Γ : List DSp) (fs : List (Str × D)) : IEs → EX → Env → Sto → LK → Prop
  | .nil, _, _, S, Q => Q [] S
  | .cons e r, E, σ, S, Q => wpE Γ fs e E σ S fun x S1 => wpEs Γ fs r E σ S1 fun xs S2 => Q (x :: xs) S2
def wpI (Γ : List DSp) (fs : List (Str × D)) : II → EX → Env → Sto → (Src → Sto → Prop) → Prop
  | .ev e, E, σ, S, Q => wpE Γ fs e E σ S fun x S1 => iterD x S1 fun src => Q src S1
  | .rng es, E, σ, S, Q => wpEs Γ fs es E σ S fun ds S1 => rngD ds fun src => Q src S1
  | .enu e, E, σ, S, Q => wpE Γ fs e E σ S fun x S1 => iterT x S1 fun src => Q ⟨enums 0 src.items, src.chk⟩ S1
  | .zip a b, E, σ, S, Q => wpE Γ fs a E σ S fun x S1 => wpE Γ fs b E σ S1 fun y S2 => iterT x S2 fun s1 => iterT y S2 fun s2 => Q ⟨zips s1.items s2.items, fun S => s1.chk S ∧ s2.chk S⟩ S2
  | .items e, E, σ, S, Q => wpE Γ fs e E σ S fun x S1 => itemsD x S1 fun src => Q src S1
def wpB (Γ : List DSp) (fs : List (Str × D)) : IB → EX → Env → Sto → BK → Prop
  | .tr e, E, σ, S, Q => wpE Γ fs e E σ S fun x S1 => truD S1 x fun k => Q k S1
  | .yes, _, _, S, Q => Q true S
  | .nt b, E, σ, S, Q => wpB Γ fs b E σ S fun k S1 => Q (!k) S1
  | .an a b, E, σ, S, Q => wpB Γ fs a E σ S fun k S1 => if k = true then wpB Γ fs b E σ S1 Q else Q false S1
  | .or a b, E, σ, S, Q => wpB Γ fs a E σ S fun k S1 => if k = true then Q true S1 else wpB Γ fs b E σ S1 Q
  | .cmp op a b, E, σ, S, Q => wpE Γ fs a E σ S fun x S1 => wpE Γ fs b E σ S1 fun y S2 => cmpD op x y S2 fun k => Q k S2
  | .cmp2 o1 o2 a b c, E, σ, S, Q => wpE Γ fs a E σ S fun x S1 => wpE Γ fs b E σ S1 fun y S2 => cmpD o1 x y S2 fun k => if k = true then wpE Γ fs c E σ S2 fun z S3 => cmpD o2 y z S3 fun k2 => Q k2 S3 else Q false S2
end

/-! ### statements -/
structure Ks where
  nx : Env → Sto → Prop
  rt : DK
  bk : Env → Sto → Prop
  ct : Env → Sto → Prop
  ex : Str → List (Str × D) → Env → Sto → Prop
def Ks.E (K : Ks) (σ : Env) : EX := fun c fs S => K.ex c fs σ S
def loopD (chk : Sto → Prop) (tgt : D → Env → (Env → Prop) → Prop) (body : Ks → Env → Sto → Prop) : List D → Ks → Env → Sto → Prop
  | [], K, σ, S => chk S ∧ K.nx σ S
  | x :: r, K, σ, S => chk S ∧ tgt x σ fun σ1 => body { K with nx := fun σ' S' => loopD chk tgt body r K σ' S', ct := fun σ' S' => loopD chk tgt body r K σ' S', bk := K.nx } σ1 S
def whileD (c : Env → Sto → BK → Prop) (body : Ks → Env → Sto → Prop) (K : Ks) (σ : Env) (S : Sto) : Prop :=
  ∃ W : Nat → Env → Sto → Prop, (∃ m, W m σ S) ∧ ∀ m σ S, W m σ S → c σ S fun b S1 =>
    if b = true then body { K with nx := fun σ' S' => ∃ m', m' < m ∧ W m' σ' S', ct := fun σ' S' => ∃ m', m' < m ∧ W m' σ' S', bk := K.nx } σ S1 else K.nx σ S1
def fieldsOf (c : Str) (ds : List D) : Option (List (Str × D)) := match ds with
  | [x] => if c = "TextError" then some [("at", x)] else if c = "CommandError" then some [("line", x)] else if c = "LogError" then none else some [("reason", x)]
  | [x, y] => if c = "LogError" then some [("number", x), ("reason", y)] else none
  | _ => none
def noneAt (n : Option Nat) (σ : Env) : Env := match n with
  | some i => σ.set i none
  | none => σ
def slotOk (n : Option Nat) (σ : Env) : Prop := match n with
  | some i => i < σ.length
  | none => True
mutual
def wpS (Γ : List DSp) (fs : List (Str × D)) : IS → Ks → Env → Sto → Prop
  | .asg t e, K, σ, S => wpE Γ fs e (K.E σ) σ S fun x S1 => wpT t x σ fun σ1 => K.nx σ1 S1
  | .asub o i e, K, σ, S => wpE Γ fs e (K.E σ) σ S fun v S1 => wpE Γ fs o (K.E σ) σ S1 fun x S2 => wpE Γ fs i (K.E σ) σ S2 fun k S3 => subD x k v S3 fun S4 => K.nx σ S4
  | .afld o x e, K, σ, S => wpE Γ fs e (K.E σ) σ S fun v S1 => wpE Γ fs o (K.E σ) σ S1 fun y S2 => match y with
    | .ref a => ∃ c gs, S2 a = some (.ins c gs) ∧ K.nx σ (put S2 a (.ins c (putF x v gs)))
    | _ => False
  | .aug i op e, K, σ, S => match σ[i]? with
    | some (some x) => wpE Γ fs e (K.E σ) σ S fun y S1 => ipD op x y S1 fun z S2 => K.nx (σ.set i (some z)) S2
    | _ => False
  | .augf o x op e, K, σ, S => False
  | .ex e, K, σ, S => wpE Γ fs e (K.E σ) σ S fun _ S1 => K.nx σ S1
  | .ret e, K, σ, S => wpE Γ fs e (K.E σ) σ S K.rt
  | .iff c a b, K, σ, S => wpB Γ fs c (K.E σ) σ S fun k S1 => if k = true then wpSs Γ fs a K σ S1 else wpSs Γ fs b K σ S1
  | .whl c b, K, σ, S => whileD (fun σ S Q => wpB Γ fs c (K.E σ) σ S Q) (fun K σ S => wpSs Γ fs b K σ S) K σ S
  | .frr t it b, K, σ, S => wpI Γ fs it (K.E σ) σ S fun src S1 => loopD src.chk (fun x σ Q => wpT t x σ Q) (fun K σ S => wpSs Γ fs b K σ S) src.items K σ S1
  | .rse c es, K, σ, S => wpEs Γ fs es (K.E σ) σ S fun ds S1 => match fieldsOf c ds with
    | some gs => K.ex c gs σ S1
    | none => False
  | .trn b hs, K, σ, S => wpSs Γ fs b { K with ex := fun c' gs σ' S' => wpHs Γ hs c' gs K σ' S' } σ S
  | .pas, K, σ, S => K.nx σ S
  | .brk, K, σ, S => K.bk σ S
  | .cnt, K, σ, S => K.ct σ S
def wpSs (Γ : List DSp) (fs : List (Str × D)) : ISs → Ks → Env → Sto → Prop
  | .nil, K, σ, S => K.nx σ S
  | .cons s r, K, σ, S => wpS Γ fs s { K with nx := fun σ1 S1 => wpSs Γ fs r K σ1 S1 } σ S
def wpHs (Γ : List DSp) : IHs → Str → List (Str × D) → Ks → Env → Sto → Prop
  | .nil, c', gs, K, σ, S => K.ex c' gs σ S
  | .cons c n h r, c', gs, K, σ, S => if c ∈ above c' then slotOk n σ ∧ wpSs Γ ((("__class__" : Str), D.str c') :: gs) h { nx := fun σ S => K.nx (noneAt n σ) S, rt := K.rt, bk := fun σ S => K.bk (noneAt n σ) S, ct := fun σ S => K.ct (noneAt n σ) S, ex := fun _ _ _ _ => False } (noneAt n σ) S else wpHs Γ r c' gs K σ S
end

/-- a def's body, run at its arguments: n slots -/
def body (Γ : List DSp) (n : Nat) (b : ISs) (ds : List D) (S : Sto) (Q : DK) (E : EX) : Prop :=
  wpSs Γ [] b { nx := fun _ S' => Q .non S', rt := Q, bk := fun _ _ => False, ct := fun _ _ => False, ex := fun c gs _ S' => E c gs S' } (ds.map some ++ List.replicate (n - ds.length) none) S
end TA
set_option Elab.async false
set_option linter.all false
set_option maxRecDepth 100000
/-! TA3: how data and the store stand in the layer's heap; readings lifted. -/
namespace TA
open PySem PySem.Spec L2

/-! ### data as the layer's values -/
mutual
def RD (K : PySem.W.Frag) (H : Hp) : D → V → Prop
  | .non, v => v = .non
  | .bl b, v => v = .bl b
  | .int i, v => v = .int i
  | .str x, v => v = .str x
  | .ref a, v => v = .ref a
  | .tup xs, v => ∃ a vs, v = .ref a ∧ SqT K H a vs ∧ RDs K H xs vs
def RDs (K : PySem.W.Frag) (H : Hp) : List D → List V → Prop
  | [], vs => vs = []
  | x :: r, vs => ∃ v us, vs = v :: us ∧ RD K H x v ∧ RDs K H r us
end
/-- where a class stands -/
def clA (K : PySem.W.Frag) (c : Str) : Addr := He.ga K c
/-- an entry of a dict -/
def RE (w : World) (K : PySem.W.Frag) (H : Hp) (p : D × D) (e : DictEntry) : Prop :=
  keyOk p.1 = true ∧ (nk p.1).depth ≤ 8 ∧ e.hash = (nk p.1).hash w ∧ (∃ kv, RelV kv e.key ∧ RD K H p.1 kv) ∧ ∃ vv, RelV vv e.val ∧ RD K H p.2 vv
/-- the dict's object -/
def DictE (a : Addr) (g : Gh) : Heap → Prop := fun h => ∃ o, h.get? a = some o ∧ o.ExactDict ∧ o.data = .dict g.1.toArray g.2
def RO (w : World) (K : PySem.W.Frag) (H : Hp) (a : Addr) : SO → Prop
  | .lst xs => ∃ vs, H a = some (.lst vs) ∧ RDs K H xs vs
  | .dct kvs g => H a = some (.ext (DictE a g)) ∧ kvs.length ≤ sizeLine ∧ (a == sysModules) = false ∧ (kvs.map fun p => nk p.1).Nodup ∧ Paired (RE w K H) kvs g.1 ∧ (allTup kvs || allFlat kvs) = true
  | .ins c fs => ∃ dx gs, H a = some (.ins (clA K c) dx gs) ∧ ∀ x d, fs.lookup x = some d → ∃ v, gs.lookup x = some v ∧ RD K H d v
  | .fzl xs => ∃ o vs, H a = some (.frz o (.lst vs)) ∧ RDs K H xs vs
def RS (w : World) (K : PySem.W.Frag) (H : Hp) (S : Sto) : Prop := ∀ a o, S a = some o → RO w K H a o
def RV (K : PySem.W.Frag) (H : Hp) (σd : Env) (σ : St) : Prop := σd.length = σ.length ∧ ∀ (i : Nat) d, σd[i]? = some (some d) → ∃ v, σ[i]? = some (some v) ∧ RD K H d v
/-- what lies outside the store stays; new things of the store are new -/
structure Ext (H : Hp) (S : Sto) (H' : Hp) (S' : Sto) : Prop where
  out : ∀ a o, H a = some o → S a = none → H' a = some o ∧ S' a = none
  new : ∀ a, S' a ≠ none → S a = none → H a = none
theorem Ext.refl {H : Hp} {S : Sto} : Ext H S H S := ⟨fun _ _ h n => ⟨h, n⟩, fun _ h n => absurd n h⟩
theorem Ext.trans {H H1 H2 : Hp} {S S1 S2 : Sto} (a : Ext H S H1 S1) (b : Ext H1 S1 H2 S2) : Ext H S H2 S2 where
  out := fun c o h n => let ⟨h1, n1⟩ := a.out c o h n; b.out c o h1 n1
  new := fun c h n => by
    cases q : H c with
    | none => rfl
    | some o =>
      obtain ⟨h1, n1⟩ := a.out c o q n
      exact absurd (b.out c o h1 n1).2 h
/-- the store holds no tuples -/
theorem RS.tup {w : World} {K : PySem.W.Frag} {H : Hp} {S : Sto} (r : RS w K H S) {a : Addr} {xs : List V} (h : Rd H a (.tup xs)) : S a = none := by
  cases q : S a with
  | none => rfl
  | some o =>
    have z := r a o q
    rcases h with h | ⟨ob, h⟩
    · cases o with
      | lst _ => obtain ⟨_, z, _⟩ := z; rw [h] at z; cases z
      | dct _ _ => obtain ⟨z, _⟩ := z; rw [h] at z; cases z
      | ins _ _ => obtain ⟨_, _, z, _⟩ := z; rw [h] at z; cases z
      | fzl _ => obtain ⟨_, _, z, _⟩ := z; rw [h] at z; cases z
    · cases o with
      | lst _ => obtain ⟨_, z, _⟩ := z; rw [h] at z; cases z
      | dct _ _ => obtain ⟨z, _⟩ := z; rw [h] at z; cases z
      | ins _ _ => obtain ⟨_, _, z, _⟩ := z; rw [h] at z; cases z
      | fzl _ => obtain ⟨_, _, z, _⟩ := z; rw [h] at z; cases z
/-- the tuples stay -/
def Tups (H H' : Hp) : Prop := ∀ a xs, Rd H a (.tup xs) → Rd H' a (.tup xs)
theorem Tups.refl {H : Hp} : Tups H H := fun _ _ h => h
theorem Tups.trans {H H1 H2 : Hp} (a : Tups H H1) (b : Tups H1 H2) : Tups H H2 := fun c xs h => b c xs (a c xs h)
theorem Ext.tups {w : World} {K : PySem.W.Frag} {H H' : Hp} {S S' : Sto} (r : RS w K H S) (e : Ext H S H' S') : Tups H H' := fun a xs h => by
  have n := r.tup h
  rcases h with h | ⟨o, h⟩
  · exact .inl (e.out a _ h n).1
  · exact .inr ⟨o, (e.out a _ h n).1⟩
theorem Tups.sq {K : PySem.W.Frag} {H H' : Hp} (t : Tups H H') {a : Addr} {xs : List V} (h : SqT K H a xs) : SqT K H' a xs := by
  rcases h with h | h
  · exact .inl (t a xs h)
  · exact .inr h
mutual
theorem RD.keep {K : PySem.W.Frag} {H H' : Hp} (t : Tups H H') : ∀ {d : D} {v : V}, RD K H d v → RD K H' d v
  | .non, _, h => by simpa [RD] using h
  | .bl _, _, h => by simpa [RD] using h
  | .int _, _, h => by simpa [RD] using h
  | .str _, _, h => by simpa [RD] using h
  | .ref _, _, h => by simpa [RD] using h
  | .tup xs, v, h => by
    simp only [RD] at h ⊢
    obtain ⟨a, vs, e, s, r⟩ := h
    exact ⟨a, vs, e, t.sq s, RDs.keep t r⟩
theorem RDs.keep {K : PySem.W.Frag} {H H' : Hp} (t : Tups H H') : ∀ {ds : List D} {vs : List V}, RDs K H ds vs → RDs K H' ds vs
  | [], _, h => by simpa [RDs] using h
  | d :: r, vs, h => by
    simp only [RDs] at h ⊢
    obtain ⟨v, us, e, h1, h2⟩ := h
    exact ⟨v, us, e, RD.keep t h1, RDs.keep t h2⟩
end
theorem RV.keep {K : PySem.W.Frag} {H H' : Hp} {σd : Env} {σ : St} (t : Tups H H') (h : RV K H σd σ) : RV K H' σd σ :=
  ⟨h.1, fun i d e => let ⟨v, e', r⟩ := h.2 i d e; ⟨v, e', r.keep t⟩⟩
theorem RDs.length {K : PySem.W.Frag} {H : Hp} : ∀ {ds : List D} {vs : List V}, RDs K H ds vs → ds.length = vs.length
  | [], _, h => by simp only [RDs] at h; subst h; rfl
  | d :: r, vs, h => by
    simp only [RDs] at h
    obtain ⟨v, us, rfl, _, h2⟩ := h
    simp [RDs.length h2]
theorem RDs.nil {K : PySem.W.Frag} {H : Hp} : RDs K H [] [] := by simp [RDs]
theorem RDs.cons {K : PySem.W.Frag} {H : Hp} {d : D} {v : V} {ds : List D} {vs : List V} (h : RD K H d v) (r : RDs K H ds vs) : RDs K H (d :: ds) (v :: vs) := by
  simp only [RDs]; exact ⟨v, vs, rfl, h, r⟩
theorem RDs.uncons {K : PySem.W.Frag} {H : Hp} {d : D} {ds : List D} {vs : List V} (h : RDs K H (d :: ds) vs) : ∃ v us, vs = v :: us ∧ RD K H d v ∧ RDs K H ds us := by
  simpa only [RDs] using h
theorem RDs.get {K : PySem.W.Frag} {H : Hp} : ∀ {ds : List D} {vs : List V} {i : Nat} {d : D}, RDs K H ds vs → ds[i]? = some d → ∃ v, vs[i]? = some v ∧ RD K H d v
  | [], _, i, d, h, e => by simp at e
  | x :: r, vs, i, d, h, e => by
    obtain ⟨v, us, rfl, h1, h2⟩ := h.uncons
    cases i with
    | zero => simp at e; subst e; exact ⟨v, by simp, h1⟩
    | succ i => simp at e; obtain ⟨u, e', r'⟩ := RDs.get h2 e; exact ⟨u, by simpa using e', r'⟩
theorem RDs.append {K : PySem.W.Frag} {H : Hp} : ∀ {ds es : List D} {vs us : List V}, RDs K H ds vs → RDs K H es us → RDs K H (ds ++ es) (vs ++ us)
  | [], _, vs, _, h, h' => by simp only [RDs] at h; subst h; simpa using h'
  | x :: r, _, vs, _, h, h' => by
    obtain ⟨v, us, rfl, h1, h2⟩ := h.uncons
    exact .cons h1 (RDs.append h2 h')
theorem RDs.take {K : PySem.W.Frag} {H : Hp} : ∀ {ds : List D} {vs : List V} (n : Nat), RDs K H ds vs → RDs K H (ds.take n) (vs.take n)
  | _, _, 0, _ => by simp [RDs]
  | [], _, n + 1, h => by simp only [RDs] at h; subst h; simp [RDs]
  | x :: r, vs, n + 1, h => by
    obtain ⟨v, us, rfl, h1, h2⟩ := h.uncons
    exact .cons h1 (RDs.take n h2)
theorem RDs.drop {K : PySem.W.Frag} {H : Hp} : ∀ {ds : List D} {vs : List V} (n : Nat), RDs K H ds vs → RDs K H (ds.drop n) (vs.drop n)
  | _, _, 0, h => h
  | [], _, n + 1, h => by simp only [RDs] at h; subst h; simp [RDs]
  | x :: r, vs, n + 1, h => by
    obtain ⟨v, us, rfl, h1, h2⟩ := h.uncons
    exact RDs.drop n h2
theorem RDs.reverse {K : PySem.W.Frag} {H : Hp} : ∀ {ds : List D} {vs : List V}, RDs K H ds vs → RDs K H ds.reverse vs.reverse
  | [], _, h => by simp only [RDs] at h; subst h; simp [RDs]
  | x :: r, vs, h => by
    obtain ⟨v, us, rfl, h1, h2⟩ := h.uncons
    simp only [List.reverse_cons]
    exact (RDs.reverse h2).append (.cons h1 .nil)
theorem RDs.set {K : PySem.W.Frag} {H : Hp} {d : D} {v : V} (q : RD K H d v) : ∀ {ds : List D} {vs : List V} (i : Nat), RDs K H ds vs → RDs K H (ds.set i d) (vs.set i v)
  | [], _, _, h => by simp only [RDs] at h; subst h; simp [RDs]
  | x :: r, vs, 0, h => by
    obtain ⟨v', us, rfl, h1, h2⟩ := h.uncons
    exact .cons q h2
  | x :: r, vs, i + 1, h => by
    obtain ⟨v', us, rfl, h1, h2⟩ := h.uncons
    exact .cons h1 (RDs.set q i h2)
theorem RDs.rep {K : PySem.W.Frag} {H : Hp} {ds : List D} {vs : List V} (h : RDs K H ds vs) : ∀ n : Nat, RDs K H (List.replicate n ds).flatten (List.replicate n vs).flatten
  | 0 => by simp [RDs]
  | n + 1 => by simp only [List.replicate_succ, List.flatten_cons]; exact h.append (RDs.rep h n)
theorem RDs.snoc {K : PySem.W.Frag} {H : Hp} : ∀ {ds : List D} {d : D} {vs : List V}, RDs K H (ds ++ [d]) vs → ∃ us v, vs = us ++ [v] ∧ RDs K H ds us ∧ RD K H d v
  | [], d, vs, h => by
    obtain ⟨v, us, rfl, h1, h2⟩ := h.uncons
    simp only [RDs] at h2; subst h2
    exact ⟨[], v, rfl, .nil, h1⟩
  | x :: r, d, vs, h => by
    obtain ⟨v, us, rfl, h1, h2⟩ := RDs.uncons h
    obtain ⟨us', v', rfl, h3, h4⟩ := RDs.snoc h2
    exact ⟨v :: us', v', rfl, .cons h1 h3, h4⟩
theorem RE.keep {w : World} {K : PySem.W.Frag} {H H' : Hp} (t : Tups H H') {p : D × D} {e : DictEntry} (h : RE w K H p e) : RE w K H' p e := by
  obtain ⟨h1, h2, h3, ⟨kv, r1, r2⟩, vv, r3, r4⟩ := h
  exact ⟨h1, h2, h3, ⟨kv, r1, r2.keep t⟩, vv, r3, r4.keep t⟩
theorem RO.keep {w : World} {K : PySem.W.Frag} {H H' : Hp} {a : Addr} {o : SO} (t : Tups H H') (e : ∀ u, H a = some u → H' a = some u) (h : RO w K H a o) : RO w K H' a o := by
  cases o with
  | lst xs => obtain ⟨vs, h1, h2⟩ := h; exact ⟨vs, e _ h1, h2.keep t⟩
  | dct kvs g => obtain ⟨h1, h2, h3, h4, h5, h6⟩ := h; exact ⟨e _ h1, h2, h3, h4, Paired.mapP h5 fun p q r => r.keep t, h6⟩
  | ins c fs => obtain ⟨dx, gs, h1, h2⟩ := h; exact ⟨dx, gs, e _ h1, fun x d l => let ⟨v, l', r⟩ := h2 x d l; ⟨v, l', r.keep t⟩⟩
  | fzl xs => obtain ⟨o, vs, h1, h2⟩ := h; exact ⟨o, vs, e _ h1, h2.keep t⟩

/-! ### the layer's heap written -/
section
variable {w : World} {K : PySem.W.Frag} {H : Hp} {S : Sto} {p : Addr}
theorem tups_new (hp : H p = none) {o : HO} : Tups H (upd H p o) := fun a xs h => by
  rcases h with h | ⟨ob, h⟩
  · exact .inl (by rw [upd_ne (ne_of_none h hp)]; exact h)
  · exact .inr ⟨ob, by rw [upd_ne (ne_of_none h hp)]; exact h⟩
theorem RS.free (r : RS w K H S) (hp : H p = none) : S p = none := by
  cases q : S p with
  | none => rfl
  | some o =>
    have z := r p o q
    cases o with
    | lst _ => obtain ⟨_, z, _⟩ := z; rw [hp] at z; cases z
    | dct _ _ => obtain ⟨z, _⟩ := z; rw [hp] at z; cases z
    | ins _ _ => obtain ⟨_, _, z, _⟩ := z; rw [hp] at z; cases z
    | fzl _ => obtain ⟨_, _, z, _⟩ := z; rw [hp] at z; cases z
theorem RS.new (r : RS w K H S) (hp : H p = none) {o : HO} : RS w K (upd H p o) S := fun a u e => by
  have ne : a ≠ p := fun z => by subst z; rw [r.free hp] at e; cases e
  exact (r a u e).keep (tups_new hp) fun u h => by rw [upd_ne ne]; exact h
/-- a new thing that the store does not hold (a tuple) -/
theorem ext_new (hp : H p = none) {o : HO} : Ext H S (upd H p o) S :=
  ⟨fun a u h n => ⟨by rw [upd_ne (ne_of_none h hp)]; exact h, n⟩, fun _ h n => absurd n h⟩
/-- a new thing of the store -/
theorem RS.lay (r : RS w K H S) (hp : H p = none) {o : HO} {so : SO} (n : RO w K (upd H p o) p so) : RS w K (upd H p o) (put S p so) := fun a u e => by
  by_cases ne : a = p
  · subst ne; rw [put_same] at e; cases e; exact n
  · rw [put_ne ne] at e
    exact (r a u e).keep (tups_new hp) fun u h => by rw [upd_ne ne]; exact h
theorem ext_lay (hp : H p = none) {o : HO} {so : SO} : Ext H S (upd H p o) (put S p so) := by
  refine ⟨fun a u h n => ?_, fun a h n => ?_⟩
  · have ne := ne_of_none h hp
    exact ⟨by rw [upd_ne ne]; exact h, by rw [put_ne ne]; exact n⟩
  · by_cases ne : a = p
    · subst ne; exact hp
    · rw [put_ne ne] at h; exact absurd n h
theorem tups_set {u : HO} (e : H p = some u) (nt : ∀ xs, u ≠ .tup xs) (nf : ∀ o x, u ≠ .frz o x) {o : HO} : Tups H (upd H p o) := fun a xs h => by
  rcases h with h | ⟨ob, h⟩
  · have ne : a ≠ p := fun z => by subst z; rw [e] at h; cases h; exact nt _ rfl
    exact .inl (by rw [upd_ne ne]; exact h)
  · have ne : a ≠ p := fun z => by subst z; rw [e] at h; cases h; exact nf _ _ rfl
    exact .inr ⟨ob, by rw [upd_ne ne]; exact h⟩
/-- a thing of the store written -/
theorem RS.set (r : RS w K H S) {u : HO} (e : H p = some u) (nt : ∀ xs, u ≠ .tup xs) (nf : ∀ o x, u ≠ .frz o x) {o : HO} {so : SO} (n : RO w K (upd H p o) p so) : RS w K (upd H p o) (put S p so) := fun a v q => by
  by_cases ne : a = p
  · subst ne; rw [put_same] at q; cases q; exact n
  · rw [put_ne ne] at q
    exact (r a v q).keep (tups_set e nt nf) fun u h => by rw [upd_ne ne]; exact h
theorem ext_set {so0 : SO} (hS : S p = some so0) {o : HO} {so : SO} : Ext H S (upd H p o) (put S p so) := by
  refine ⟨fun a u h n => ?_, fun a h n => ?_⟩
  · have ne : a ≠ p := fun z => by subst z; rw [hS] at n; cases n
    exact ⟨by rw [upd_ne ne]; exact h, by rw [put_ne ne]; exact n⟩
  · have ne : a ≠ p := fun z => by subst z; rw [hS] at n; cases n
    rw [put_ne ne] at h; exact absurd n h
end
/-- forgetting a part of the store -/
theorem RS.sub {w : World} {K : PySem.W.Frag} {H : Hp} {S S' : Sto} (r : RS w K H S) (h : ∀ a o, S' a = some o → S a = some o) : RS w K H S' := fun a o e => r a o (h a o e)

/-! ### lifted readings -/
abbrev DE := EX → Env → Sto → DK → Prop
def errNames : List Str := ["TreeError", "ReasonError", "ArgumentError", "PaperError", "TooMany", "CheckError", "TextError", "LogError", "CommandError"]
def fldNames : List Str := ["reason", "at", "number", "line"]
/-- what is told of a class of errors -/
structure KnownC (K : PySem.W.Frag) (c : Str) : Prop where
  mem : c ∈ errNames
  xf : XfC K (clA K c)
  no : ∀ f ∈ fldNames, PySem.W.findIn K (.ref (clA K c)) f = some none
  exm : ∀ c2 ∈ errNames, PySem.W.nsIn K mainGlobals c2 = some (some (.ref (clA K c2))) → PySem.W.exmOne K (.ref (clA K c)) (.ref (clA K c2)) = some (decide (c2 ∈ above c))
/-- an error, in the layer and here -/
def RX (K : PySem.W.Frag) (H : Hp) (c : Str) (fs : List (Str × D)) (cls : Value) (d : Option Addr) : Prop :=
  KnownC K c ∧ cls = .ref (clA K c) ∧ ∃ dx gs, d = some dx ∧ H dx = some (.xd gs) ∧ ∀ x y, fs.lookup x = some y → ∃ v, gs.lookup x = some v ∧ RD K H y v
/-- what is wanted of errors, in the layer and here -/
def WR (w : World) (K : PySem.W.Frag) (W : WX) (E : EX) (σ : St) (H : Hp) (S : Sto) : Prop :=
  ∀ c fs S' cls d H', E c fs S' → RX K H' c fs cls d → RS w K H' S' → Ext H S H' S' → W cls d σ H'
theorem WR.keep {w : World} {K : PySem.W.Frag} {W : WX} {E : EX} {σ : St} {H H1 : Hp} {S S1 : Sto} (h : WR w K W E σ H S) (e : Ext H S H1 S1) : WR w K W E σ H1 S1 :=
  fun c fs S' cls d H' x r s e' => h c fs S' cls d H' x r s (e.trans e')
section
variable (w : World) (K : PySem.W.Frag) (W : WX)
def liftE (f : DE) : TE := fun σ H Q => ∃ σd S E P, RV K H σd σ ∧ RS w K H S ∧ WR w K W E σ H S ∧ f E σd S P ∧ ∀ d S' v H', P d S' → RD K H' d v → RS w K H' S' → Ext H S H' S' → Q v H'
def liftEs (n : Nat) (f : EX → Env → Sto → LK → Prop) : TA := fun σ H Q => ∃ σd S E P, RV K H σd σ ∧ RS w K H S ∧ WR w K W E σ H S ∧ f E σd S P ∧ ∀ ds S' vs H', P ds S' → vs.length = n → RDs K H' ds vs → RS w K H' S' → Ext H S H' S' → Q vs H'
def liftB (f : EX → Env → Sto → BK → Prop) : TT := fun σ H Q => ∃ σd S E P, RV K H σd σ ∧ RS w K H S ∧ WR w K W E σ H S ∧ f E σd S P ∧ ∀ b S' H', P b S' → RS w K H' S' → Ext H S H' S' → Q b H'
/-- a reading by values, from data: r is what is to be read in the layer -/
def liftR (f : D → D → Sto → DK → Prop) : R2 := fun x y H Q => ∃ a b S P, RD K H a x ∧ RD K H b y ∧ RS w K H S ∧ f a b S P ∧ ∀ d S' v H', P d S' → RD K H' d v → RS w K H' S' → Ext H S H' S' → Q v H'
def liftR1 (f : D → Sto → DK → Prop) : V → Hp → VK → Prop := fun x H Q => ∃ a S P, RD K H a x ∧ RS w K H S ∧ f a S P ∧ ∀ d S' v H', P d S' → RD K H' d v → RS w K H' S' → Ext H S H' S' → Q v H'
def liftRs (f : List D → Sto → DK → Prop) : List V → Hp → VK → Prop := fun xs H Q => ∃ ds S P, RDs K H ds xs ∧ RS w K H S ∧ f ds S P ∧ ∀ d S' v H', P d S' → RD K H' d v → RS w K H' S' → Ext H S H' S' → Q v H'
def liftM (f : D → List D → Sto → DK → Prop) : V → List V → Hp → VK → Prop := fun x xs H Q => ∃ a ds S P, RD K H a x ∧ RDs K H ds xs ∧ RS w K H S ∧ f a ds S P ∧ ∀ d S' v H', P d S' → RD K H' d v → RS w K H' S' → Ext H S H' S' → Q v H'
end
/-- readings weakened -/
theorem peW {X : Cx} {e : Expr} {t t' : TE} (h : PE X e t) (m : ∀ σ H Q, t' σ H Q → t σ H Q) : PE X e t' := ⟨fun p s σ H Q I q => h.run p s σ H Q I (m σ H Q q)⟩
theorem ptW {X : Cx} {e : Expr} {t t' : TT} (h : PT X e t) (m : ∀ σ H Q, t' σ H Q → t σ H Q) : PT X e t' := ⟨fun p s σ H Q I q => h.run p s σ H Q I (m σ H Q q)⟩
theorem pwW {X : Cx} {e : Expr} {t t' : TT} (h : PW X e t) (m : ∀ σ H Q, t' σ H Q → t σ H Q) : PW X e t' := ⟨fun wh p s σ H Q I q => h.run wh p s σ H Q I (m σ H Q q)⟩
theorem paW {X : Cx} {e : List Expr} {t t' : TA} (h : PA X e t) (m : ∀ σ H Q, t' σ H Q → t σ H Q) : PA X e t' := ⟨fun ps p s σ H Q I q => h.run ps p s σ H Q I (m σ H Q q)⟩
theorem psW {X : Cx} {e : Stmt} {t t' : TS} (h : PS X e t) (m : ∀ D σ H, t' D σ H → t D σ H) : PS X e t' := ⟨fun p s σ H D I q => h.run p s σ H D I (m D σ H q)⟩
theorem pssW {X : Cx} {e : List Stmt} {t t' : TS} (h : PSs X e t) (m : ∀ D σ H, t' D σ H → t D σ H) : PSs X e t' := ⟨fun p s σ H D I q => h.run p s σ H D I (m D σ H q)⟩
end TA
set_option Elab.async false
set_option linter.all false
set_option maxRecDepth 100000
/-! TA4: rules for expressions. -/
namespace TA
open PySem PySem.Spec L2

section
variable {X : Cx} {W : WX} {Γ : List DSp} {fs : List (Str × D)}
/-! ### names, constants -/
theorem e_var {i : Nat} {x : Str} {pos : Pos} (h : PE X (.Name x pos) (tVar i)) : PE X (.Name x pos) (liftE X.w X.K W (wpE Γ fs (.var i))) :=
  peW h fun σ H Q ⟨σd, S, E, P, rv, rs, wr, hw, hP⟩ => by
    simp only [wpE] at hw
    split at hw
    · rename_i d hd
      obtain ⟨v, e, r⟩ := rv.2 i d hd
      exact ⟨v, e, hP _ _ _ _ hw r rs .refl⟩
    · exact hw.elim
theorem e_con {e : Expr} {d : D} {v : V} (h : PE X e (tC v)) (r : ∀ H, RD X.K H d v) : PE X e (liftE X.w X.K W (wpE Γ fs (.con d))) :=
  peW h fun σ H Q ⟨σd, S, E, P, rv, rs, wr, hw, hP⟩ => hP _ _ _ _ hw (r H) rs .refl
/-! ### argument lists -/
theorem a_nil : PA X [] (liftEs X.w X.K W 0 (wpEs Γ fs .nil)) :=
  paW pa_nil fun σ H Q ⟨σd, S, E, P, rv, rs, wr, hw, hP⟩ => hP _ _ _ _ hw rfl .nil rs .refl
theorem a_cons {e : Expr} {es : List Expr} {a : IE} {r : IEs} (ha : PE X e (liftE X.w X.K W (wpE Γ fs a))) (hr : PA X es (liftEs X.w X.K W es.length (wpEs Γ fs r)))
    (hs : starEach (e :: es) X.env = (false, eval e X.env) :: starEach es X.env) : PA X (e :: es) (liftEs X.w X.K W (es.length + 1) (wpEs Γ fs (.cons a r))) :=
  paW (pa_cons ha hr hs) fun σ H Q ⟨σd, S, E, P, rv, rs, wr, hw, hP⟩ =>
    ⟨σd, S, E, _, rv, rs, wr, hw, fun d S1 v H1 h1 rd rs1 e1 => ⟨σd, S1, E, _, rv.keep (e1.tups rs), rs1, wr.keep e1, h1, fun ds S2 vs H2 h2 hl rds rs2 e2 =>
      hP _ _ _ _ h2 (by simp [hl]) (.cons (rd.keep (e2.tups rs1)) rds) rs2 (e1.trans e2)⟩⟩
theorem e_tup {es : List Expr} {k : Nat} {pos : Pos} {a : IEs} (h : PA X es (liftEs X.w X.K W es.length (wpEs Γ fs a))) (hl : es.length ≤ sizeLine) :
    PE X (.Tuple es k pos) (liftE X.w X.K W (wpE Γ fs (.tup a))) :=
  peW (pe_tup h) fun σ H Q ⟨σd, S, E, P, rv, rs, wr, hw, hP⟩ =>
    ⟨σd, S, E, _, rv, rs, wr, hw, fun ds S1 vs H1 h1 hz rds rs1 e1 => ⟨by rw [hz]; exact hl, fun p hp =>
      hP _ _ _ _ h1 (by simp only [RD]; exact ⟨p, vs, rfl, .of upd_same, rds.keep (tups_new hp)⟩) (rs1.new hp) (e1.trans (ext_new hp))⟩⟩
theorem e_lst {es : List Expr} {pos : Pos} {a : IEs} (h : PA X es (liftEs X.w X.K W es.length (wpEs Γ fs a))) (hl : es.length ≤ sizeLine) :
    PE X (.List es pos) (liftE X.w X.K W (wpE Γ fs (.lst a))) :=
  peW (pe_lst h) fun σ H Q ⟨σd, S, E, P, rv, rs, wr, hw, hP⟩ =>
    ⟨σd, S, E, _, rv, rs, wr, hw, fun ds S1 vs H1 h1 hz rds rs1 e1 => ⟨by rw [hz]; exact hl, fun p hp =>
      hP _ _ _ _ (h1 p (rs1.free hp)) (by simp only [RD]) (rs1.lay hp ⟨vs, upd_same, rds.keep (tups_new hp)⟩) (e1.trans (ext_lay hp))⟩⟩
/-! ### operators by values -/
theorem e_op2 {e1 e2 : Expr} {a b : IE} {f : D → D → Sto → DK → Prop} {e : Expr} {g : IE} (h : ∀ {ta tb : TE}, PE X e1 ta → PE X e2 tb → PE X e (tOp (liftR X.w X.K f) ta tb))
    (ha : PE X e1 (liftE X.w X.K W (wpE Γ fs a))) (hb : PE X e2 (liftE X.w X.K W (wpE Γ fs b)))
    (hg : ∀ E σ S P, wpE Γ fs g E σ S P → wpE Γ fs a E σ S fun x S1 => wpE Γ fs b E σ S1 fun y S2 => f x y S2 P) : PE X e (liftE X.w X.K W (wpE Γ fs g)) :=
  peW (h ha hb) fun σ H Q ⟨σd, S, E, P, rv, rs, wr, hw, hP⟩ =>
    ⟨σd, S, E, _, rv, rs, wr, hg _ _ _ _ hw, fun d S1 v H1 h1 rd rs1 e1 => ⟨σd, S1, E, _, rv.keep (e1.tups rs), rs1, wr.keep e1, h1, fun d2 S2 v2 H2 h2 rd2 rs2 e2 =>
      ⟨d, d2, S2, P, rd.keep (e2.tups rs1), rd2, rs2, h2, fun d3 S3 v3 H3 h3 rd3 rs3 e3 => hP _ _ _ _ h3 rd3 rs3 ((e1.trans e2).trans e3)⟩⟩⟩
theorem e_bin {e1 e2 : Expr} {op : Operator} {a b : IE} {pos : Pos} (ho : OpR X (binaryOp op) (liftR X.w X.K (opD op))) (ha : PE X e1 (liftE X.w X.K W (wpE Γ fs a))) (hb : PE X e2 (liftE X.w X.K W (wpE Γ fs b))) :
    PE X (.BinOp e1 op e2 pos) (liftE X.w X.K W (wpE Γ fs (.bin op a b))) := e_op2 (pe_op ho) ha hb fun _ _ _ _ h => h
def cmpV (op : CmpOp) (x y : D) (S : Sto) (Q : DK) : Prop := cmpD op x y S fun k => Q (.bl k) S
theorem e_cmp {e1 e2 : Expr} {op : CmpOp} {a b : IE} {pos : Pos} (ho : OpR X (compareOp op) (liftR X.w X.K (cmpV op))) (ha : PE X e1 (liftE X.w X.K W (wpE Γ fs a))) (hb : PE X e2 (liftE X.w X.K W (wpE Γ fs b)))
    (hm : behindInMarks op e2 = false) : PE X (.Compare e1 [op] [e2] pos) (liftE X.w X.K W (wpE Γ fs (.cmp op a b))) := e_op2 (fun x y => pe_cmpR ho x y hm) ha hb fun _ _ _ _ h => h
theorem b_cmp {e1 e2 : Expr} {op : CmpOp} {a b : IE} {pos : Pos} (ho : OpR X (compareOp op) (liftR X.w X.K (cmpV op))) (ha : PE X e1 (liftE X.w X.K W (wpE Γ fs a))) (hb : PE X e2 (liftE X.w X.K W (wpE Γ fs b)))
    (hm : behindInMarks op e2 = false) : PT X (.Compare e1 [op] [e2] pos) (liftB X.w X.K W (wpB Γ fs (.cmp op a b))) :=
  ptW (pt_cmpR ho ha hb hm) fun σ H Q ⟨σd, S, E, P, rv, rs, wr, hw, hP⟩ =>
    ⟨σd, S, E, _, rv, rs, wr, hw, fun d S1 v H1 h1 rd rs1 e1 => ⟨σd, S1, E, _, rv.keep (e1.tups rs), rs1, wr.keep e1, h1, fun d2 S2 v2 H2 h2 rd2 rs2 e2 =>
      ⟨d, d2, S2, fun z S3 => ∃ k, z = .bl k ∧ P k S3, rd.keep (e2.tups rs1), rd2, rs2, by
        show cmpD op d d2 S2 fun k => ∃ k', D.bl k = D.bl k' ∧ P k' S2
        have : (fun k => P k S2) = fun k => ∃ k', D.bl k = D.bl k' ∧ P k' S2 := by
          funext k
          exact propext ⟨fun h => ⟨k, rfl, h⟩, fun ⟨k', e, h⟩ => by cases e; exact h⟩
        rw [← this]; exact h2, fun d3 S3 v3 H3 h3 rd3 rs3 e3 => by
        obtain ⟨k, rfl, hk⟩ := h3
        simp only [RD] at rd3
        exact ⟨k, rd3, hP _ _ _ hk rs3 ((e1.trans e2).trans e3)⟩⟩⟩⟩
/-! ### ints, texts, tuples, lists: the operators -/
theorem rd_int {K H i v} : RD K H (.int i) v ↔ v = .int i := by simp only [RD]
theorem rd_str {K H i v} : RD K H (.str i) v ↔ v = .str i := by simp only [RD]
theorem rd_bl {K H i v} : RD K H (.bl i) v ↔ v = .bl i := by simp only [RD]
theorem rd_non {K H v} : RD K H .non v ↔ v = .non := by simp only [RD]
theorem rd_ref {K H a v} : RD K H (.ref a) v ↔ v = .ref a := by simp only [RD]
theorem rd_tup {K H xs v} : RD K H (.tup xs) v ↔ ∃ a vs, v = .ref a ∧ SqT K H a vs ∧ RDs K H xs vs := by simp only [RD]
theorem opr_cases {f : Value → Value → Sem Value} {r : R2} (h : ∀ pins s σ H x y v u Q, Inv X pins σ H s → RelV x v → RelV y u → r x y H Q → ∃ r', OpR X f r' ∧ r' x y H Q) : OpR X f r :=
  fun pins s σ H x y v u Q I rx ry q => by
    obtain ⟨r', o, q'⟩ := h pins s σ H x y v u Q I rx ry q
    exact o pins s σ H x y v u Q I rx ry q'
theorem rds_nil_iff {K H ds vs} (h : RDs K H ds vs) : vs = [] ↔ ds = [] := by
  have e := h.length
  constructor
  · intro z; subst z; exact List.length_eq_zero_iff.mp (by simpa using e)
  · intro z; subst z; exact List.length_eq_zero_iff.mp (by simpa using e.symm)
theorem op_add' : OpR X (binaryOp .Add) (liftR X.w X.K (opD .Add)) := opr_cases fun pins s σ H x y v u Q I rx ry ⟨a, b, S, P, ra, rb, rs, hf, hP⟩ => by
  cases a with
  | int i =>
    cases b with
    | int j =>
      rw [rd_int] at ra rb; subst ra rb
      exact ⟨_, op_add, i, j, rfl, rfl, hP _ _ _ _ hf (rd_int.mpr rfl) rs .refl⟩
    | _ => exact hf.elim
  | str i =>
    cases b with
    | str j =>
      rw [rd_str] at ra rb; subst ra rb
      exact ⟨_, op_add_str, i, j, rfl, rfl, hf.1, hP _ _ _ _ hf.2 (rd_str.mpr rfl) rs .refl⟩
    | _ => exact hf.elim
  | tup xs =>
    cases b with
    | tup ys =>
      obtain ⟨p, vs, rfl, h1, r1⟩ := rd_tup.mp ra
      obtain ⟨q, us, rfl, h2, r2⟩ := rd_tup.mp rb
      refine ⟨_, op_catA, p, q, vs, us, rfl, rfl, h1, h2, by rw [← r1.length, ← r2.length]; exact hf.1, fun e => ?_, fun _ e => ?_, fun _ _ t ht => ?_⟩
      · have e' := (rds_nil_iff r1).mp e; subst e'
        exact hP _ _ _ _ hf.2 (by simpa using rb) rs .refl
      · have e' := (rds_nil_iff r2).mp e; subst e'
        exact hP _ _ _ _ hf.2 (by simpa using ra) rs .refl
      · exact hP _ _ _ _ hf.2 (rd_tup.mpr ⟨t, vs ++ us, rfl, .of upd_same, (r1.append r2).keep (tups_new ht)⟩) (rs.new ht) (ext_new ht)
    | _ => exact hf.elim
  | ref p =>
    cases b with
    | ref q =>
      rw [rd_ref] at ra rb; subst ra rb
      obtain ⟨xs, ys, e1, e2, hz, hf⟩ := hf
      obtain ⟨vs, h1, r1⟩ := rs p _ e1
      obtain ⟨us, h2, r2⟩ := rs q _ e2
      exact ⟨_, op_cat, p, q, vs, us, rfl, rfl, h1, h2, by rw [← r1.length, ← r2.length]; exact hz, fun t ht =>
        hP _ _ _ _ (hf t (rs.free ht)) (rd_ref.mpr rfl) (rs.lay ht ⟨vs ++ us, upd_same, (r1.append r2).keep (tups_new ht)⟩) (ext_lay ht)⟩
    | _ => exact hf.elim
  | _ => exact hf.elim
theorem op_sub' : OpR X (binaryOp .Sub) (liftR X.w X.K (opD .Sub)) := opr_cases fun pins s σ H x y v u Q I rx ry ⟨a, b, S, P, ra, rb, rs, hf, hP⟩ => by
  cases a with
  | int i =>
    cases b with
    | int j =>
      rw [rd_int] at ra rb; subst ra rb
      exact ⟨_, op_sub, i, j, rfl, rfl, hP _ _ _ _ hf (rd_int.mpr rfl) rs .refl⟩
    | _ => exact hf.elim
  | _ => exact hf.elim
theorem op_fdiv' : OpR X (binaryOp .FloorDiv) (liftR X.w X.K (opD .FloorDiv)) := opr_cases fun pins s σ H x y v u Q I rx ry ⟨a, b, S, P, ra, rb, rs, hf, hP⟩ => by
  cases a with
  | int i =>
    cases b with
    | int j =>
      rw [rd_int] at ra rb; subst ra rb
      exact ⟨_, op_fdivN, i, j, rfl, rfl, hf.1, hP _ _ _ _ hf.2 (rd_int.mpr rfl) rs .refl⟩
    | _ => exact hf.elim
  | _ => exact hf.elim
theorem op_mod' : OpR X (binaryOp .Mod) (liftR X.w X.K (opD .Mod)) := opr_cases fun pins s σ H x y v u Q I rx ry ⟨a, b, S, P, ra, rb, rs, hf, hP⟩ => by
  cases a with
  | int i =>
    cases b with
    | int j =>
      rw [rd_int] at ra rb; subst ra rb
      exact ⟨_, op_modN, i, j, rfl, rfl, hf.1, hP _ _ _ _ hf.2 (rd_int.mpr rfl) rs .refl⟩
    | _ => exact hf.elim
  | _ => exact hf.elim
theorem op_pow' : OpR X (binaryOp .Pow) (liftR X.w X.K (opD .Pow)) := opr_cases fun pins s σ H x y v u Q I rx ry ⟨a, b, S, P, ra, rb, rs, hf, hP⟩ => by
  cases a with
  | int i =>
    cases b with
    | int j =>
      rw [rd_int] at ra rb; subst ra rb
      exact ⟨_, op_pow, i, j, rfl, rfl, hf.1, hP _ _ _ _ hf.2 (rd_int.mpr rfl) rs .refl⟩
    | _ => exact hf.elim
  | _ => exact hf.elim
end
end TA
set_option Elab.async false
set_option linter.all false
set_option maxRecDepth 100000
/-! TA5: tests, comparisons, subscripts, slices, calls. -/
namespace TA
open PySem PySem.Spec L2
/-! ### truth -/
theorem truD_ok {w : World} {K : PySem.W.Frag} {H : Hp} {S : Sto} {x : D} {v : V} {Q : Bool → Prop} (rs : RS w K H S) (r : RD K H x v) (h : truD S x Q) : ∃ k, TruV K v H k ∧ Q k := by
  cases x with
  | non => rw [rd_non] at r; subst r; exact ⟨_, rfl, h⟩
  | bl b => rw [rd_bl] at r; subst r; exact ⟨_, rfl, h⟩
  | int i => rw [rd_int] at r; subst r; exact ⟨_, rfl, h⟩
  | str z => rw [rd_str] at r; subst r; exact ⟨_, ⟨h.1, rfl⟩, h.2⟩
  | tup xs =>
    obtain ⟨a, vs, rfl, s, r⟩ := rd_tup.mp r
    refine ⟨_, .inr (.inl ⟨vs, s, rfl⟩), ?_⟩
    have : vs.isEmpty = xs.isEmpty := by
      have e := r.length
      cases xs <;> cases vs <;> simp_all
    rw [this]; exact h
  | ref a =>
    rw [rd_ref] at r; subst r
    simp only [truD] at h
    split at h
    · rename_i xs e
      obtain ⟨vs, h1, r⟩ := rs a _ e
      refine ⟨_, .inl ⟨vs, .of h1, rfl⟩, ?_⟩
      have : vs.isEmpty = xs.isEmpty := by
        have e := r.length
        cases xs <;> cases vs <;> simp_all
      rw [this]; exact h
    · exact h.elim
section
variable {X : Cx} {W : WX} {Γ : List DSp} {fs : List (Str × D)}
theorem b_tr {e : Expr} {a : IE} (ha : PE X e (liftE X.w X.K W (wpE Γ fs a))) (he : ∀ whole, isTrue e X.env whole = (do let v ← whole; standAt e.pos; holding [v] (truthy v))) : PT X e (liftB X.w X.K W (wpB Γ fs (.tr a))) :=
  ptW (pt_truth ha he) fun σ H Q ⟨σd, S, E, P, rv, rs, wr, hw, hP⟩ =>
    ⟨σd, S, E, _, rv, rs, wr, hw, fun d S1 v H1 h1 rd rs1 e1 => by
      obtain ⟨k, t, hk⟩ := truD_ok rs1 rd h1
      exact ⟨k, t, hP _ _ _ hk rs1 e1⟩⟩
theorem b_not {e : Expr} {a : IB} {pos : Pos} (ha : PT X e (liftB X.w X.K W (wpB Γ fs a))) : PT X (.UnaryOp .Not e pos) (liftB X.w X.K W (wpB Γ fs (.nt a))) :=
  ptW (pt_not ha) fun σ H Q ⟨σd, S, E, P, rv, rs, wr, hw, hP⟩ =>
    ⟨σd, S, E, _, rv, rs, wr, hw, fun b S1 H1 h1 rs1 e1 => hP _ _ _ h1 rs1 e1⟩
theorem w_one {op : PySem.BoolOp} {e : Expr} {a : IB} {pos : Pos} (ha : PT X e (liftB X.w X.K W (wpB Γ fs a))) : PW X (.BoolOp op [e] pos) (liftB X.w X.K W (wpB Γ fs a)) := by
  cases op with
  | And => exact pw_and1 ha
  | Or => exact pw_or1 ha
theorem w_and {e f : Expr} {r : List Expr} {a b : IB} {pos : Pos} (ha : PT X e (liftB X.w X.K W (wpB Γ fs a))) (hb : PW X (.BoolOp .And (f :: r) pos) (liftB X.w X.K W (wpB Γ fs b))) :
    PW X (.BoolOp .And (e :: f :: r) pos) (liftB X.w X.K W (wpB Γ fs (.an a b))) :=
  pwW (pw_and ha hb) fun σ H Q ⟨σd, S, E, P, rv, rs, wr, hw, hP⟩ =>
    ⟨σd, S, E, _, rv, rs, wr, hw, fun k S1 H1 h1 rs1 e1 => by
      cases k with
      | true => exact iteT ⟨σd, S1, E, P, rv.keep (e1.tups rs), rs1, wr.keep e1, h1, fun k2 S2 H2 h2 rs2 e2 => hP _ _ _ h2 rs2 (e1.trans e2)⟩
      | false => exact iteF (hP _ _ _ h1 rs1 e1)⟩
theorem w_or {e f : Expr} {r : List Expr} {a b : IB} {pos : Pos} (ha : PT X e (liftB X.w X.K W (wpB Γ fs a))) (hb : PW X (.BoolOp .Or (f :: r) pos) (liftB X.w X.K W (wpB Γ fs b))) :
    PW X (.BoolOp .Or (e :: f :: r) pos) (liftB X.w X.K W (wpB Γ fs (.or a b))) :=
  pwW (pw_or ha hb) fun σ H Q ⟨σd, S, E, P, rv, rs, wr, hw, hP⟩ =>
    ⟨σd, S, E, _, rv, rs, wr, hw, fun k S1 H1 h1 rs1 e1 => by
      cases k with
      | true => exact iteT (hP _ _ _ h1 rs1 e1)
      | false => exact iteF ⟨σd, S1, E, P, rv.keep (e1.tups rs), rs1, wr.keep e1, h1, fun k2 S2 H2 h2 rs2 e2 => hP _ _ _ h2 rs2 (e1.trans e2)⟩⟩
/-! ### as values -/
theorem e_nt {e : Expr} {a : IE} {pos : Pos} (ha : PE X e (liftE X.w X.K W (wpE Γ fs a))) : PE X (.UnaryOp .Not e pos) (liftE X.w X.K W (wpE Γ fs (.nt a))) :=
  peW (pe_notT ha) fun σ H Q ⟨σd, S, E, P, rv, rs, wr, hw, hP⟩ =>
    ⟨σd, S, E, _, rv, rs, wr, hw, fun d S1 v H1 h1 rd rs1 e1 => by
      obtain ⟨k, t, hk⟩ := truD_ok rs1 rd h1
      exact ⟨k, t, hP _ _ _ _ hk (rd_bl.mpr rfl) rs1 e1⟩⟩
theorem e_one {op : PySem.BoolOp} {e : Expr} {a : IE} {pos : Pos} (ha : PE X e (liftE X.w X.K W (wpE Γ fs a))) : PE X (.BoolOp op [e] pos) (liftE X.w X.K W (wpE Γ fs a)) := pe_one ha
theorem e_and {e f : Expr} {r : List Expr} {a b : IE} {pos : Pos} (ha : PE X e (liftE X.w X.K W (wpE Γ fs a))) (hb : PE X (.BoolOp .And (f :: r) pos) (liftE X.w X.K W (wpE Γ fs b))) :
    PE X (.BoolOp .And (e :: f :: r) pos) (liftE X.w X.K W (wpE Γ fs (.an a b))) :=
  peW (pe_andT ha hb) fun σ H Q ⟨σd, S, E, P, rv, rs, wr, hw, hP⟩ =>
    ⟨σd, S, E, _, rv, rs, wr, hw, fun d S1 v H1 h1 rd rs1 e1 => by
      obtain ⟨k, t, hk⟩ := truD_ok rs1 rd h1
      refine ⟨k, t, ?_⟩
      cases k with
      | true => exact iteT ⟨σd, S1, E, P, rv.keep (e1.tups rs), rs1, wr.keep e1, hk, fun k2 S2 v2 H2 h2 rd2 rs2 e2 => hP _ _ _ _ h2 rd2 rs2 (e1.trans e2)⟩
      | false => exact iteF (hP _ _ _ _ hk rd rs1 e1)⟩
theorem e_or {e f : Expr} {r : List Expr} {a b : IE} {pos : Pos} (ha : PE X e (liftE X.w X.K W (wpE Γ fs a))) (hb : PE X (.BoolOp .Or (f :: r) pos) (liftE X.w X.K W (wpE Γ fs b))) :
    PE X (.BoolOp .Or (e :: f :: r) pos) (liftE X.w X.K W (wpE Γ fs (.or a b))) :=
  peW (pe_orT ha hb) fun σ H Q ⟨σd, S, E, P, rv, rs, wr, hw, hP⟩ =>
    ⟨σd, S, E, _, rv, rs, wr, hw, fun d S1 v H1 h1 rd rs1 e1 => by
      obtain ⟨k, t, hk⟩ := truD_ok rs1 rd h1
      refine ⟨k, t, ?_⟩
      cases k with
      | true => exact iteT (hP _ _ _ _ hk rd rs1 e1)
      | false => exact iteF ⟨σd, S1, E, P, rv.keep (e1.tups rs), rs1, wr.keep e1, hk, fun k2 S2 v2 H2 h2 rd2 rs2 e2 => hP _ _ _ _ h2 rd2 rs2 (e1.trans e2)⟩⟩
theorem e_ite {c e f : Expr} {t : IB} {a b : IE} {pos : Pos} (hc : PT X c (liftB X.w X.K W (wpB Γ fs t))) (ha : PE X e (liftE X.w X.K W (wpE Γ fs a))) (hb : PE X f (liftE X.w X.K W (wpE Γ fs b))) :
    PE X (.IfExp c e f pos) (liftE X.w X.K W (wpE Γ fs (.ite t a b))) :=
  peW (pe_ifExp hc ha hb) fun σ H Q ⟨σd, S, E, P, rv, rs, wr, hw, hP⟩ =>
    ⟨σd, S, E, _, rv, rs, wr, hw, fun k S1 H1 h1 rs1 e1 => by
      cases k with
      | true => exact iteT ⟨σd, S1, E, P, rv.keep (e1.tups rs), rs1, wr.keep e1, h1, fun k2 S2 v2 H2 h2 rd2 rs2 e2 => hP _ _ _ _ h2 rd2 rs2 (e1.trans e2)⟩
      | false => exact iteF ⟨σd, S1, E, P, rv.keep (e1.tups rs), rs1, wr.keep e1, h1, fun k2 S2 v2 H2 h2 rd2 rs2 e2 => hP _ _ _ _ h2 rd2 rs2 (e1.trans e2)⟩⟩
theorem e_neg {e : Expr} {a : IE} {pos : Pos} (ha : PE X e (liftE X.w X.K W (wpE Γ fs a))) : PE X (.UnaryOp .USub e pos) (liftE X.w X.K W (wpE Γ fs (.neg a))) :=
  peW (pe_un un_neg ha) fun σ H Q ⟨σd, S, E, P, rv, rs, wr, hw, hP⟩ =>
    ⟨σd, S, E, _, rv, rs, wr, hw, fun d S1 v H1 h1 rd rs1 e1 => by
      cases d with
      | int i => rw [rd_int] at rd; subst rd; exact ⟨i, rfl, hP _ _ _ _ h1 (rd_int.mpr rfl) rs1 e1⟩
      | _ => exact h1.elim⟩
/-! ### comparisons -/
mutual
theorem toP_dp {w : World} {K : PySem.W.Frag} {H : Hp} {S : Sto} {f : Addr → Option PyData} (hf : ∀ a p, f a = some p → Dp K H (.ref a) p) : ∀ (x : D) (v : V) (p : PyData), RD K H x v → toP f x = some p → Dp K H v p
  | .non, v, p, r, h => by rw [rd_non] at r; subst r; simp only [toP, Option.some.injEq] at h; subst h; exact .non
  | .bl b, v, p, r, h => by rw [rd_bl] at r; subst r; simp only [toP, Option.some.injEq] at h; subst h; exact .bl b
  | .int b, v, p, r, h => by rw [rd_int] at r; subst r; simp only [toP, Option.some.injEq] at h; subst h; exact .int b
  | .str b, v, p, r, h => by rw [rd_str] at r; subst r; simp only [toP, Option.some.injEq] at h; subst h; exact .str b
  | .tup xs, v, p, r, h => by
    obtain ⟨a, vs, rfl, s, r⟩ := rd_tup.mp r
    simp only [toP, Option.map_eq_some_iff] at h
    obtain ⟨q, h, rfl⟩ := h
    exact .tup s (toPs_dp (w := w) (S := S) hf xs vs q r h)
  | .ref a, v, p, r, h => by
    rw [rd_ref] at r; subst r
    simp only [toP] at h
    exact hf a p h
theorem toPs_dp {w : World} {K : PySem.W.Frag} {H : Hp} {S : Sto} {f : Addr → Option PyData} (hf : ∀ a p, f a = some p → Dp K H (.ref a) p) : ∀ (xs : List D) (vs : List V) (ps : List PyData), RDs K H xs vs → toPs f xs = some ps → DpAll K H vs ps
  | [], vs, ps, r, h => by simp only [RDs] at r; subst r; simp only [toPs, Option.some.injEq] at h; subst h; exact .nil
  | x :: xs, vs, ps, r, h => by
    obtain ⟨v, us, rfl, h1, h2⟩ := r.uncons
    simp only [toPs] at h
    split at h
    · rename_i p q e1 e2
      simp only [Option.some.injEq] at h; subst h
      exact .cons (toP_dp (w := w) (S := S) hf x v p h1 e1) (toPs_dp (w := w) (S := S) hf xs us q h2 e2)
    · cases h
end
theorem refP_dp {w : World} {K : PySem.W.Frag} {H : Hp} {S : Sto} (rs : RS w K H S) : ∀ (n : Nat) (a : Addr) (p : PyData), refP S n a = some p → Dp K H (.ref a) p
  | 0, a, p, h => by simp [refP] at h
  | n + 1, a, p, h => by
    simp only [refP] at h
    split at h
    · rename_i xs e
      obtain ⟨vs, h1, r⟩ := rs a _ e
      simp only [Option.map_eq_some_iff] at h
      obtain ⟨q, h, rfl⟩ := h
      exact .lst (.of h1) (toPs_dp (w := w) (S := S) (refP_dp rs n) xs vs q r h)
    · cases h
theorem pd_dp {w : World} {K : PySem.W.Frag} {H : Hp} {S : Sto} (rs : RS w K H S) {x : D} {v : V} {p : PyData} (r : RD K H x v) (h : pd S x = some p) : Dp K H v p := toP_dp (w := w) (S := S) (refP_dp rs 6) x v p r h
theorem op_eq' (hu : X.A.units + 64 < cLine) : OpR X (compareOp .Eq) (liftR X.w X.K (cmpV .Eq)) := opr_cases fun pins s σ H x y v u Q I rx ry ⟨a, b, S, P, ra, rb, rs, hf, hP⟩ => by
  obtain ⟨p, q, h1, h2, h3, h4, h5⟩ := hf
  exact ⟨_, op_eqD hu, p, q, pd_dp rs ra h1, pd_dp rs rb h2, h3, h4, hP _ _ _ _ h5 (rd_bl.mpr rfl) rs .refl⟩
theorem op_ne' (hu : X.A.units + 64 < cLine) : OpR X (compareOp .NotEq) (liftR X.w X.K (cmpV .NotEq)) := opr_cases fun pins s σ H x y v u Q I rx ry ⟨a, b, S, P, ra, rb, rs, hf, hP⟩ => by
  obtain ⟨p, q, h1, h2, h3, h4, h5⟩ := hf
  exact ⟨_, op_neD hu, p, q, pd_dp rs ra h1, pd_dp rs rb h2, h3, h4, hP _ _ _ _ h5 (rd_bl.mpr rfl) rs .refl⟩
theorem isNon_ok {K : PySem.W.Frag} {H : Hp} {a : D} {x : V} (r : RD K H a x) : isNon a = decide (x = .non) := by
  cases a with
  | non => rw [rd_non] at r; subst r; rfl
  | bl b => rw [rd_bl] at r; subst r; rfl
  | int b => rw [rd_int] at r; subst r; rfl
  | str b => rw [rd_str] at r; subst r; rfl
  | tup xs => obtain ⟨p, vs, rfl, _, _⟩ := rd_tup.mp r; rfl
  | ref b => rw [rd_ref] at r; subst r; rfl
theorem op_is' : OpR X (compareOp .Is) (liftR X.w X.K (cmpV .Is)) := opr_cases fun pins s σ H x y v u Q I rx ry ⟨a, b, S, P, ra, rb, rs, hf, hP⟩ => by
  cases b with
  | non =>
    rw [rd_non] at rb; subst rb
    refine ⟨_, op_isN, rfl, ?_⟩
    rw [← isNon_ok ra]
    exact hP _ _ _ _ hf (rd_bl.mpr rfl) rs .refl
  | _ => cases a <;> exact hf.elim
theorem op_isnt' : OpR X (compareOp .IsNot) (liftR X.w X.K (cmpV .IsNot)) := opr_cases fun pins s σ H x y v u Q I rx ry ⟨a, b, S, P, ra, rb, rs, hf, hP⟩ => by
  cases b with
  | non =>
    rw [rd_non] at rb; subst rb
    refine ⟨_, op_notN, rfl, ?_⟩
    rw [← isNon_ok ra]
    exact hP _ _ _ _ hf (rd_bl.mpr rfl) rs .refl
  | _ => cases a <;> exact hf.elim
theorem op_lt' : OpR X (compareOp .Lt) (liftR X.w X.K (cmpV .Lt)) := opr_cases fun pins s σ H x y v u Q I rx ry ⟨a, b, S, P, ra, rb, rs, hf, hP⟩ => by
  cases a with
  | int i =>
    cases b with
    | int j =>
      rw [rd_int] at ra rb; subst ra rb
      exact ⟨_, op_lt, i, j, rfl, rfl, hP _ _ _ _ hf (rd_bl.mpr rfl) rs .refl⟩
    | _ => exact hf.elim
  | str i =>
    cases b with
    | str j =>
      rw [rd_str] at ra rb; subst ra rb
      exact ⟨_, op_lt_str, i, j, rfl, rfl, hP _ _ _ _ hf (rd_bl.mpr rfl) rs .refl⟩
    | _ => exact hf.elim
  | _ => cases b <;> exact hf.elim
theorem op_le' : OpR X (compareOp .LtE) (liftR X.w X.K (cmpV .LtE)) := opr_cases fun pins s σ H x y v u Q I rx ry ⟨a, b, S, P, ra, rb, rs, hf, hP⟩ => by
  cases a with
  | int i =>
    cases b with
    | int j =>
      rw [rd_int] at ra rb; subst ra rb
      exact ⟨_, op_le, i, j, rfl, rfl, hP _ _ _ _ hf (rd_bl.mpr rfl) rs .refl⟩
    | _ => exact hf.elim
  | _ => cases b <;> exact hf.elim
theorem op_gt' : OpR X (compareOp .Gt) (liftR X.w X.K (cmpV .Gt)) := opr_cases fun pins s σ H x y v u Q I rx ry ⟨a, b, S, P, ra, rb, rs, hf, hP⟩ => by
  cases a with
  | int i =>
    cases b with
    | int j =>
      rw [rd_int] at ra rb; subst ra rb
      exact ⟨_, op_gt, i, j, rfl, rfl, hP _ _ _ _ hf (rd_bl.mpr rfl) rs .refl⟩
    | _ => exact hf.elim
  | _ => cases b <;> exact hf.elim
theorem op_ge' : OpR X (compareOp .GtE) (liftR X.w X.K (cmpV .GtE)) := opr_cases fun pins s σ H x y v u Q I rx ry ⟨a, b, S, P, ra, rb, rs, hf, hP⟩ => by
  cases a with
  | int i =>
    cases b with
    | int j =>
      rw [rd_int] at ra rb; subst ra rb
      exact ⟨_, op_ge, i, j, rfl, rfl, hP _ _ _ _ hf (rd_bl.mpr rfl) rs .refl⟩
    | _ => exact hf.elim
  | _ => cases b <;> exact hf.elim
/-- a op1 b op2 c -/
theorem chain_in {o1 o2 : CmpOp} {a b c : IE} {ta tb tc : TE} {r1 r2 : R2} (e1 : r1 = liftR X.w X.K (cmpV o1)) (e2 : r2 = liftR X.w X.K (cmpV o2)) (ea : ta = liftE X.w X.K W (wpE Γ fs a)) (eb : tb = liftE X.w X.K W (wpE Γ fs b)) (ec : tc = liftE X.w X.K W (wpE Γ fs c))
    {σ : St} {H : Hp} {Q : VK} {σd : Env} {S : Sto} {E : EX} {P : BK} (rv : RV X.K H σd σ) (rs : RS X.w X.K H S) (wr : WR X.w X.K W E σ H S)
    (hw : wpE Γ fs a E σd S fun x S1 => wpE Γ fs b E σd S1 fun y S2 => cmpD o1 x y S2 fun k => if k = true then wpE Γ fs c E σd S2 fun z S3 => cmpD o2 y z S3 fun k2 => P k2 S3 else P false S2)
    (hP : ∀ k S' H', P k S' → RS X.w X.K H' S' → Ext H S H' S' → Q (.bl k) H') : tChain r1 r2 ta tb tc σ H Q := by
  subst e1 e2 ea eb ec
  refine ⟨σd, S, E, _, rv, rs, wr, hw, fun d S1 v H1 h1 rd rs1 e1 => ⟨σd, S1, E, _, rv.keep (e1.tups rs), rs1, wr.keep e1, h1, fun d2 S2 v2 H2 h2 rd2 rs2 e2 => ?_⟩⟩
  refine ⟨d, d2, S2, fun z S3 => S3 = S2 ∧ ∃ k, z = .bl k ∧ (if k = true then wpE Γ fs c E σd S2 fun z S3 => cmpD o2 d2 z S3 fun k2 => P k2 S3 else P false S2), rd.keep (e2.tups rs1), rd2, rs2, ?_, fun d3 S3 v3 H3 h3 rd3 rs3 e3 => ?_⟩
  · show cmpD o1 d d2 S2 fun k => S2 = S2 ∧ ∃ k', D.bl k = D.bl k' ∧ _
    have : (fun k => if k = true then wpE Γ fs c E σd S2 fun z S3 => cmpD o2 d2 z S3 fun k2 => P k2 S3 else P false S2) = fun k => S2 = S2 ∧ ∃ k', D.bl k = D.bl k' ∧ (if k' = true then wpE Γ fs c E σd S2 fun z S3 => cmpD o2 d2 z S3 fun k2 => P k2 S3 else P false S2) := by
      funext k
      exact propext ⟨fun h => ⟨rfl, k, rfl, h⟩, fun ⟨_, k', e, h⟩ => by cases e; exact h⟩
    rw [← this]; exact h2
  · obtain ⟨rfl, k, rfl, hk⟩ := h3
    rw [rd_bl] at rd3
    refine ⟨k, rd3, ?_⟩
    have ex := (e1.trans e2).trans e3
    cases k with
    | false => exact iteF (hP _ _ _ hk rs3 ex)
    | true =>
      refine iteT ⟨σd, S3, E, _, rv.keep (ex.tups rs), rs3, wr.keep ex, hk, fun d4 S4 v4 H4 h4 rd4 rs4 e4 => ?_⟩
      refine ⟨d2, d4, S4, fun z S5 => S5 = S4 ∧ ∃ k, z = .bl k ∧ P k S4, rd2.keep ((e3.trans e4).tups rs2), rd4, rs4, ?_, fun d5 S5 v5 H5 h5 rd5 rs5 e5 => ?_⟩
      · show cmpD o2 d2 d4 S4 fun k => S4 = S4 ∧ ∃ k', D.bl k = D.bl k' ∧ _
        have : (fun k => P k S4) = fun k => S4 = S4 ∧ ∃ k', D.bl k = D.bl k' ∧ P k' S4 := by
          funext k
          exact propext ⟨fun h => ⟨rfl, k, rfl, h⟩, fun ⟨_, k', e, h⟩ => by cases e; exact h⟩
        rw [← this]; exact h4
      · obtain ⟨rfl, k, rfl, hk⟩ := h5
        rw [rd_bl] at rd5; subst rd5
        exact hP _ _ _ hk rs5 ((ex.trans e4).trans e5)
theorem e_cmp2 {e1 e2 e3 : Expr} {o1 o2 : CmpOp} {a b c : IE} {pos : Pos} (h1 : OpR X (compareOp o1) (liftR X.w X.K (cmpV o1))) (h2 : OpR X (compareOp o2) (liftR X.w X.K (cmpV o2))) (ha : PE X e1 (liftE X.w X.K W (wpE Γ fs a))) (hb : PE X e2 (liftE X.w X.K W (wpE Γ fs b)))
    (hc : PE X e3 (liftE X.w X.K W (wpE Γ fs c))) (hm : lastMarks [o1, o2] [e2, e3] = false) : PE X (.Compare e1 [o1, o2] [e2, e3] pos) (liftE X.w X.K W (wpE Γ fs (.cmp2 o1 o2 a b c))) :=
  peW (pe_chain h1 h2 ha hb hc hm) fun σ H Q ⟨σd, S, E, P, rv, rs, wr, hw, hP⟩ =>
    chain_in (P := fun k S => P (.bl k) S) rfl rfl rfl rfl rfl rv rs wr hw fun k S' H' h rs' e => hP _ _ _ _ h (rd_bl.mpr rfl) rs' e
theorem b_cmp2 {e1 e2 e3 : Expr} {o1 o2 : CmpOp} {a b c : IE} {pos : Pos} (h1 : OpR X (compareOp o1) (liftR X.w X.K (cmpV o1))) (h2 : OpR X (compareOp o2) (liftR X.w X.K (cmpV o2))) (ha : PE X e1 (liftE X.w X.K W (wpE Γ fs a))) (hb : PE X e2 (liftE X.w X.K W (wpE Γ fs b)))
    (hc : PE X e3 (liftE X.w X.K W (wpE Γ fs c))) (hm : lastMarks [o1, o2] [e2, e3] = false) : PT X (.Compare e1 [o1, o2] [e2, e3] pos) (liftB X.w X.K W (wpB Γ fs (.cmp2 o1 o2 a b c))) :=
  ptW (pt_chain h1 h2 ha hb hc hm) fun σ H Q ⟨σd, S, E, P, rv, rs, wr, hw, hP⟩ =>
    chain_in (P := P) rfl rfl rfl rfl rfl rv rs wr hw fun k S' H' h rs' e => ⟨k, rfl, hP _ _ _ h rs' e⟩
end
end TA
set_option Elab.async false
set_option linter.all false
set_option maxRecDepth 100000
/-! TA6a: tuple * int in all cases. -/
namespace PySem
open PyProof.Rows Spec L2
theorem ta_tuple_mul1 (l : Addr) (items : Array Value) (n : Nat) (dd : Option Addr) (sl : Array (Option Value)) (x : Int) (u : Tok) (c0 : (decide (x < -(2 ^ 63)) || decide (x ≥ 2 ^ 63)) = false) (c1 : (items.isEmpty || x == 1) = true) :
    Meets (Builtin.«tuple.__mul__» ⟨[.ref l, .int x u], []⟩) (fun _ R s => s.heap.get? l = some { cls := .type "tuple", dict := dd, data := .seq items n, slots := sl } ∧
      R (.ok (.ret (Value.ref l))) s) :=
  .of_wp fun prog w A R s h => by
    obtain ⟨hp, g, d, tk, os⟩ := s
    obtain ⟨hl, h⟩ := h
    have f1 := AutoSeq1.idx_int
    wp_walk using wpAny_loadPart' hl
    repeat (first
      | (refine wpAny_ite_false (decide_eq_false (by rw [c0]; exact Bool.false_ne_true)) ?_; wp_walk using wpAny_loadPart' hl)
      | (refine wpAny_ite_true (decide_eq_true (by rw [c1])) ?_; wp_walk using wpAny_loadPart' hl))
    exact ⟨_, rfl, h⟩
theorem ta_tuple_mul0 (l : Addr) (items : Array Value) (n : Nat) (dd : Option Addr) (sl : Array (Option Value)) (x : Int) (u : Tok) (c0 : (decide (x < -(2 ^ 63)) || decide (x ≥ 2 ^ 63)) = false) (c1 : (items.isEmpty || x == 1) = false) (c2 : (decide (x ≤ 0) || items.isEmpty) = true) :
    Meets (Builtin.«tuple.__mul__» ⟨[.ref l, .int x u], []⟩) (fun _ R s => s.heap.get? l = some { cls := .type "tuple", dict := dd, data := .seq items n, slots := sl } ∧
      R (.ok (.ret (Value.ref s.heap.objs.size))) { s with heap := s.heap.push { cls := Value.type "tuple", data := Data.seq #[] }, toks := s.toks }) :=
  .of_wp fun prog w A R s h => by
    obtain ⟨hp, g, d, tk, os⟩ := s
    obtain ⟨hl, h⟩ := h
    have f1 := AutoSeq1.idx_int
    wp_walk using wpAny_loadPart' hl
    repeat (first
      | (refine wpAny_ite_false (decide_eq_false (by rw [c0]; exact Bool.false_ne_true)) ?_; wp_walk using wpAny_loadPart' hl)
      | (refine wpAny_ite_false (decide_eq_false (by rw [c1]; exact Bool.false_ne_true)) ?_; wp_walk using wpAny_loadPart' hl)
      | (refine wpAny_ite_true (decide_eq_true (by rw [c2])) ?_; wp_walk using wpAny_loadPart' hl))
    exact ⟨_, rfl, h⟩
end PySem
namespace TA
open PySem PySem.Spec L2
section
variable {X : Cx}
/-- tuple * int, any -/
def rMulT (K : PySem.W.Frag) : R2 := fun x y H Q => ∃ l k xs, x = .ref l ∧ y = .int k ∧ SqT K H l xs ∧ k ≤ 1000000 ∧ -(2 ^ 63) ≤ k ∧ xs.length * k.toNat ≤ sizeLine ∧
  ((xs = [] ∨ k = 1) → Q (.ref l) H) ∧ (¬ (xs = [] ∨ k = 1) → ∀ p, H p = none → Q (.ref p) (upd H p (.tup (List.replicate k.toNat xs).flatten)))
theorem op_mulT : OpR X (binaryOp .Mult) (rMulT X.K) := by
  intro pins s σ H x y v u Q I rx ry h
  obtain ⟨l, k, xs, rfl, rfl, hT, h1, h2, hz, q1, q2⟩ := h
  cases rx
  obtain ⟨t, rfl⟩ := ry
  obtain ⟨its, r, ⟨⟨cls, dd, data, sl⟩, ho, hc, n, hd⟩, hs⟩ := I.tuple hT
  simp only at hc hd
  subst hc hd
  have hle : its.length = xs.length := r.length.symm
  have c0 : (decide (k < -(2 ^ 63)) || decide (k ≥ 2 ^ 63)) = false := by
    rw [decide_eq_false (by omega), decide_eq_false (by omega)] <;> rfl
  have go : ∀ {Q' : Value → Shared → Prop}, (∀ (prog : Program) (w : World) (A : Around) (E : Value → Shared → Prop), wpAny (model prog w) A (call (.builtin "tuple.__mul__") [.ref l, .int k t]) Q' E s) → wpAny (model X.prog X.w) X.A (binaryOp .Mult (.ref l) (.int k t)) Q' X.xe s := fun hq =>
    wpAny_binaryOp_repeat_ref (T := "tuple") (U := "int") (by decide) ⟨_, ho, rfl⟩ (fun s' => typeIs_int s' k t) noFill_tuple_mul F.fills_int_mul F.slot_int_rmul repeat_tuple F.slot_int_index.lookup
      (call_meets F.slot_int_rmul (typeIs_int s k t) F.entry_int_rmul (F.args_int_rmul_2 _ _) (int_rmul_tuple k t l its.toArray n dd sl) ⟨ho, rfl, ⟨_, ho, rfl⟩, hq _ _ _ _⟩)
  by_cases hc1 : xs = [] ∨ k = 1
  · have c1 : (its.toArray.isEmpty || k == 1) = true := by
      rcases hc1 with e | e
      · subst e
        have : its = [] := List.eq_nil_of_length_eq_zero (by simpa using hle)
        subst this; rfl
      · subst e; simp
    exact go fun _ _ _ _ => call_meets F.slot_tuple_mul ⟨_, ho, rfl⟩ F.entry_tuple_mul (F.args_tuple_mul_2 _ _) (ta_tuple_mul1 l its.toArray n dd sl k t c0 c1) ⟨ho, ⟨V.ref l, H, I, rfl, q1 hc1⟩⟩
  · have q := q2 hc1
    have hx : xs ≠ [] := fun e => hc1 (.inl e)
    have hk : k ≠ 1 := fun e => hc1 (.inr e)
    have hn : its ≠ [] := fun e => hx (by rw [e] at hle; exact List.eq_nil_of_length_eq_zero hle.symm)
    have hi : its.toArray.isEmpty = false := by
      cases its with
      | nil => exact absurd rfl hn
      | cons a b => rfl
    have c1 : (its.toArray.isEmpty || k == 1) = false := by
      rw [hi, Bool.false_or]
      exact beq_eq_false_iff_ne.mpr hk
    have fin : ∀ ys : List Value, ys = (List.replicate k.toNat its).flatten → ys.length ≤ sizeLine → EP X pins σ Q (.ref s.heap.objs.size) { s with heap := s.heap.push { cls := .type "tuple", data := .seq ys.toArray } } := fun ys e hl => by
      refine ⟨V.ref s.heap.objs.size, upd H s.heap.objs.size (.tup (List.replicate k.toNat xs).flatten), I.laid (t' := s.toks) (fun b o h => Heap.get?_push_of_some _ h) (Nat.le_refl _) ⟨?_, ys, ?_, _, Heap.get?_push_size _ rfl, rfl, _, rfl⟩, rfl, q _ I.fresh⟩
      · rw [(show (List.replicate k.toNat xs).flatten.length = ys.length from ?_)]
        · exact hl
        · rw [e, PyProof.Rows.lm_len_rep_flat, PyProof.Rows.lm_len_rep_flat, hle]
      · rw [e]; exact r.rep k.toNat
    by_cases hk0 : k ≤ 0
    · have c2 : (decide (k ≤ 0) || its.toArray.isEmpty) = true := by rw [decide_eq_true hk0]; rfl
      refine go fun _ _ _ _ => call_meets F.slot_tuple_mul ⟨_, ho, rfl⟩ F.entry_tuple_mul (F.args_tuple_mul_2 _ _) (ta_tuple_mul0 l its.toArray n dd sl k t c0 c1 c2) ⟨ho, ?_⟩
      have e0 : k.toNat = 0 := by omega
      exact fin [] (by rw [e0]; rfl) (by simp)
    · have hsz0 : its.toArray.size = xs.length := by rw [List.size_toArray, hle]
      have hm0 : ((xs.length * k.toNat : Nat) : Int) ≤ sizeLine := by exact_mod_cast hz
      have hm : ((its.toArray.size : Nat) : Int) * k ≤ sizeLine := by
        rw [hsz0]
        have : (k.toNat : Int) = k := by omega
        rw [← this]
        rw [← Int.natCast_mul]; exact hm0
      have hl16 : (sizeLine : Int) = 16777216 := by rw [sizeLine_eq]; rfl
      have flen : (List.replicate k.toNat its).flatten.length ≤ sizeLine := by
        rw [PyProof.Rows.lm_len_rep_flat, hle, Nat.mul_comm]; exact hz
      have c2 : (decide (k ≤ 0) || its.toArray.isEmpty) = false := by
        rw [hi, Bool.or_false]
        exact decide_eq_false (by omega)
      have c4 : Builtin.Tuple.tupleTooMany (((its.toArray.size : Nat) : Int) * k) = false := by
        unfold Builtin.Tuple.tupleTooMany
        exact decide_eq_false (by omega)
      refine go fun _ _ _ _ => call_meets F.slot_tuple_mul ⟨_, ho, rfl⟩ F.entry_tuple_mul (F.args_tuple_mul_2 _ _) (tuple_mulW l its.toArray n dd sl k t c0 c1 c2 (by omega) c4 (by rw [size_rep, List.size_toArray]; exact flen)) ⟨ho, ?_⟩
      show EP X pins σ Q _ _
      rw [size_rep]
      exact fin _ rfl flen
theorem repS_len : ∀ (n : Nat) (x a : Array Nat), ((List.replicate n x).foldl (· ++ ·) a).size = a.size + x.size * n
  | 0, x, a => by simp
  | n + 1, x, a => by
    rw [List.replicate_succ, List.foldl_cons, repS_len n x, Array.size_append, Nat.mul_succ]; omega
theorem op_mulS : OpR X (binaryOp .Mult) (fun x y H Q => ∃ z k, x = .str z ∧ y = .int k ∧ 2 ≤ k ∧ k ≤ 1000000 ∧ z.length ≠ 0 ∧ z.length * k.toNat ≤ sizeLine ∧ Q (.str (repS z k)) H) := by
  intro pins s σ H x y v u Q I rx ry ⟨z, k, e1, e2, h2, hk, h0, hl, q⟩
  subst e1 e2
  obtain ⟨t, rfl⟩ := rx
  obtain ⟨t2, rfl⟩ := ry
  have hs : sizeLine = 16777216 := sizeLine_eq
  obtain ⟨n, rfl⟩ := Int.eq_ofNat_of_zero_le (show 0 ≤ k by omega)
  have htn : (n : Int).toNat = n := by omega
  rw [htn] at hl
  have c0 : (decide ((n : Int) < -(2 ^ 63 : Int)) || decide ((n : Int) ≥ 2 ^ 63)) = false := by
    rw [decide_eq_false (by omega), decide_eq_false (by omega)] <;> rfl
  have hz : z.length ≤ 16777216 := by
    have : z.length * 1 ≤ z.length * n := Nat.mul_le_mul_left _ (by omega)
    omega
  refine PySem.P.mul_str c0 (fun _ _ => ?_) (fun _ _ => ?_) ?_
  · have : (8388608 : Int) ≤ (2 ^ 63 - 1) / (n : Int) := Int.le_ediv_of_mul_le (by omega) (by omega)
    have h3 : (2 ^ 63 - 1) / (n : Int) ≥ 9000000000000 := Int.le_ediv_of_mul_le (by omega) (by omega)
    omega
  · rw [htn]
    show decide (z.length * n > sizeLine) = false
    exact decide_eq_false (by omega)
  · rw [if_neg (by omega)]
    have e : ((n : Int) == 1 || z.length == 0) = false := by
      rw [Bool.or_eq_false_iff]
      exact ⟨beq_eq_false_iff_ne.mpr (by omega), beq_eq_false_iff_ne.mpr h0⟩
    rw [e]
    simp only [Bool.false_eq_true, if_false]
    refine ⟨?_, V.str (repS z n), H, I.tok _, ⟨_, rfl⟩, q⟩
    show ((List.replicate (n : Int).toNat z.cps).foldl (· ++ ·) #[]).size ≤ sizeLine
    rw [repS_len, htn]
    have : z.cps.size * n ≤ sizeLine := hl
    simp; omega
theorem reps_rd {K : PySem.W.Frag} {H : Hp} {ds : List D} {vs : List V} (h : RDs K H ds vs) (k : Int) : RDs K H (reps k ds) (reps k vs) := h.rep k.toNat
theorem op_mul' : OpR X (binaryOp .Mult) (liftR X.w X.K (opD .Mult)) := opr_cases fun pins s σ H x y v u Q I rx ry ⟨a, b, S, P, ra, rb, rs, hf, hP⟩ => by
  cases b with
  | int k =>
    rw [rd_int] at rb; subst rb
    cases a with
    | int i =>
      rw [rd_int] at ra; subst ra
      exact ⟨_, op_mul, i, k, rfl, rfl, hf.1, hP _ _ _ _ hf.2 (rd_int.mpr rfl) rs .refl⟩
    | str z =>
      rw [rd_str] at ra; subst ra
      obtain ⟨⟨h2, hk, h0, hl⟩, hf⟩ := hf
      exact ⟨_, op_mulS, z, k, rfl, rfl, h2, hk, h0, hl, hP _ _ _ _ hf (rd_str.mpr rfl) rs .refl⟩
    | tup xs =>
      obtain ⟨p, vs, rfl, h1, r1⟩ := rd_tup.mp ra
      obtain ⟨hk, hk', hz, hf⟩ := hf
      refine ⟨_, op_mulT, p, k, vs, rfl, rfl, h1, hk, hk', by rw [← r1.length]; exact hz, fun hc => ?_, fun hc q hq => ?_⟩
      · refine hP _ _ _ _ hf (rd_tup.mpr ⟨p, vs, rfl, h1, ?_⟩) rs .refl
        rcases hc with e | e
        · have e' := (rds_nil_iff r1).mp e
          subst e' e
          have : reps k ([] : List D) = [] := by unfold reps; induction k.toNat with
            | zero => rfl
            | succ n ih => simp [List.replicate_succ]
          rw [this]; exact .nil
        · subst e
          have : reps 1 xs = xs := by unfold reps; simp
          rw [this]; exact r1
      · exact hP _ _ _ _ hf (rd_tup.mpr ⟨q, _, rfl, .of upd_same, (reps_rd r1 k).keep (tups_new hq)⟩) (rs.new hq) (ext_new hq)
    | ref p =>
      rw [rd_ref] at ra; subst ra
      obtain ⟨xs, e, h1, h2, hz, hf⟩ := hf
      obtain ⟨vs, h3, r1⟩ := rs p _ e
      exact ⟨_, op_rep, p, k, vs, rfl, rfl, h3, h1, h2, by rw [← r1.length]; exact hz, fun t ht =>
        hP _ _ _ _ (hf t (rs.free ht)) (rd_ref.mpr rfl) (rs.lay ht ⟨_, upd_same, (reps_rd r1 k).keep (tups_new ht)⟩) (ext_lay ht)⟩
    | _ => exact hf.elim
  | _ => cases a <;> exact hf.elim
theorem iop_add' : OpR X (inplaceOp .Add) (liftR X.w X.K (ipD .Add)) := opr_cases fun pins s σ H x y v u Q I rx ry ⟨a, b, S, P, ra, rb, rs, hf, hP⟩ => by
  cases a with
  | int i =>
    cases b with
    | int j =>
      rw [rd_int] at ra rb; subst ra rb
      exact ⟨_, iop_add, i, j, rfl, rfl, hP _ _ _ _ hf (rd_int.mpr rfl) rs .refl⟩
    | _ => exact hf.elim
  | str i =>
    cases b with
    | str j =>
      rw [rd_str] at ra rb; subst ra rb
      exact ⟨_, iop_add_str, i, j, rfl, rfl, hf.1, hP _ _ _ _ hf.2 (rd_str.mpr rfl) rs .refl⟩
    | _ => exact hf.elim
  | ref p =>
    cases b with
    | ref q =>
      rw [rd_ref] at ra rb; subst ra rb
      obtain ⟨xs, ys, e1, e2, hz, hf⟩ := hf
      obtain ⟨vs, h1, r1⟩ := rs p _ e1
      obtain ⟨us, h2, r2⟩ := rs q _ e2
      have nt : ∀ zs, HO.lst vs ≠ .tup zs := fun _ z => nomatch z
      have nf : ∀ o z, HO.lst vs ≠ .frz o z := fun _ _ z => nomatch z
      exact ⟨_, iop_ext, p, q, vs, us, rfl, rfl, h1, h2, by rw [← r1.length, ← r2.length]; exact hz,
        hP _ _ _ _ hf (rd_ref.mpr rfl) (rs.set h1 nt nf ⟨vs ++ us, upd_same, (r1.append r2).keep (tups_set h1 nt nf)⟩) (ext_set e1)⟩
    | _ => exact hf.elim
  | _ => exact hf.elim
theorem iop_sub' : OpR X (inplaceOp .Sub) (liftR X.w X.K (ipD .Sub)) := opr_cases fun pins s σ H x y v u Q I rx ry ⟨a, b, S, P, ra, rb, rs, hf, hP⟩ => by
  cases a with
  | int i =>
    cases b with
    | int j =>
      rw [rd_int] at ra rb; subst ra rb
      exact ⟨_, iop_sub, i, j, rfl, rfl, hP _ _ _ _ hf (rd_int.mpr rfl) rs .refl⟩
    | _ => exact hf.elim
  | _ => cases b <;> exact hf.elim
end
end TA
set_option Elab.async false
set_option linter.all false
set_option maxRecDepth 100000
/-! TA6b: in, subscripts, slices, isinstance. -/
namespace TA
open PySem PySem.Spec L2
section
variable {X : Cx} {W : WX} {Γ : List DSp} {fs : List (Str × D)}
/-! ### in -/
def rInA (K : PySem.W.Frag) (neg : Bool) : R2 := fun x y H Q => ∃ d ds, Dp K H x d ∧ (Dp K H y (.list ds) ∨ Dp K H y (.tuple ds)) ∧ SeqAt.shaped d = true ∧ PyData.canLayAll0 ds = true ∧ Q (.bl (if neg then !ds.any fun z => PyData.eqv z d else ds.any fun z => PyData.eqv z d)) H
theorem op_inA (hu : X.A.units + 65 < cLine) : OpR X (compareOp .In) (rInA X.K false) := by
  intro pins s σ H x y v u Q I rx ry h
  obtain ⟨d, ds, hd, he, sd, se, q⟩ := h
  obtain ⟨as, r1⟩ := Dp.reads I d x v hd rx
  rcases he with he | he
  · obtain ⟨bs, r2⟩ := Dp.reads I (.list ds) y u he ry
    exact SeqAt.in_list_reads r2 r1 se (SeqAt.canLay_of_shaped sd) (PyProof.Rows.room_in_shaped sd hu) ⟨.bl _, H, I, rfl, q⟩
  · obtain ⟨bs, r2⟩ := Dp.reads I (.tuple ds) y u he ry
    exact SeqAt.in_tuple_reads r2 r1 se (SeqAt.canLay_of_shaped sd) (PyProof.Rows.room_in_shaped sd hu) ⟨.bl _, H, I, rfl, q⟩
theorem op_ninA (hu : X.A.units + 65 < cLine) : OpR X (compareOp .NotIn) (rInA X.K true) := by
  intro pins s σ H x y v u Q I rx ry h
  obtain ⟨d, ds, hd, he, sd, se, q⟩ := h
  obtain ⟨as, r1⟩ := Dp.reads I d x v hd rx
  rcases he with he | he
  · obtain ⟨bs, r2⟩ := Dp.reads I (.list ds) y u he ry
    exact SeqAt.notIn_list_reads r2 r1 se (SeqAt.canLay_of_shaped sd) (PyProof.Rows.room_in_shaped sd hu) ⟨.bl _, H, I, rfl, q⟩
  · obtain ⟨bs, r2⟩ := Dp.reads I (.tuple ds) y u he ry
    exact SeqAt.notIn_tuple_reads r2 r1 se (SeqAt.canLay_of_shaped sd) (PyProof.Rows.room_in_shaped sd hu) ⟨.bl _, H, I, rfl, q⟩
theorem tups_dp {w : World} {K : PySem.W.Frag} {H : Hp} {S : Sto} (rs : RS w K H S) {xs : List D} {v : V} {qs : List PyData} (r : RD K H (.tup xs) v) (h : toPs (refP S 6) xs = some qs) : Dp K H v (.tuple qs) := by
  refine toP_dp (w := w) (S := S) (f := refP S 6) (fun a p => refP_dp rs 6 a p) (.tup xs) v _ r ?_
  simp only [toP, h, Option.map_some]
theorem lsts_dp {w : World} {K : PySem.W.Frag} {H : Hp} {S : Sto} (rs : RS w K H S) {a : Addr} {xs : List D} {qs : List PyData} (e : S a = some (.lst xs)) (h : toPs (refP S 6) xs = some qs) : Dp K H (.ref a) (.list qs) := by
  obtain ⟨vs, h1, r⟩ := rs a _ e
  exact .lst (.of h1) (toPs_dp (w := w) (S := S) (fun a p => refP_dp rs 6 a p) xs vs qs r h)
/-! ### places -/
theorem ixD_get {xs : List D} {i : Int} {d : D} (h : ixD xs i = some d) : ∃ j : Nat, xs[j]? = some d ∧ ixN xs.length i = some j := by
  unfold ixD at h
  split at h
  · rename_i h0
    obtain ⟨hl, _⟩ := List.getElem?_eq_some_iff.mp h
    exact ⟨i.toNat, h, by unfold ixN; rw [if_pos h0, if_pos (by omega)]⟩
  · rename_i h0
    split at h
    · rename_i h1
      exact ⟨(i + xs.length).toNat, h, by unfold ixN; rw [if_neg h0, if_pos h1]⟩
    · cases h
theorem ixD_at {K : PySem.W.Frag} {H : Hp} {xs : List D} {vs : List V} (r : RDs K H xs vs) {i : Int} {d : D} (h : ixD xs i = some d) : ∃ v, atI vs i = some v ∧ RD K H d v := by
  obtain ⟨j, h1, h2⟩ := ixD_get h
  obtain ⟨v, e, rv⟩ := r.get h1
  exact ⟨v, by unfold atI; rw [← r.length, h2]; exact e, rv⟩
theorem sIx_eq (n d : Nat) (o : Option Int) : sIx n d o = HT.sIx n d o := by
  cases o <;> rfl
theorem cut_rd {K : PySem.W.Frag} {H : Hp} {xs : List D} {vs : List V} (r : RDs K H xs vs) (lo hi : Option Int) : RDs K H (cutD xs lo hi) (cutV vs lo hi) := by
  unfold cutD cutV
  rw [sIx_eq, sIx_eq, r.length]
  exact (r.drop _).take _
theorem cut_whole {xs : List D} {lo hi : Option Int} (h : HT.sIx xs.length 0 lo = 0 ∧ HT.sIx xs.length xs.length hi = xs.length) : cutD xs lo hi = xs := by
  unfold cutD
  rw [sIx_eq, sIx_eq, h.1, h.2]
  simp
/-- what a slice's end may be -/
theorem part_ok {K : PySem.W.Frag} {H : Hp} {d : D} {v : V} {o : Option Int} (r : RD K H d v) (h : partD d = some o) : (v = .non ∧ o = none) ∨ ∃ i, v = .int i ∧ o = some i := by
  cases d with
  | non => rw [rd_non] at r; subst r; simp only [partD, Option.some.injEq] at h; exact .inl ⟨rfl, h.symm⟩
  | int i => rw [rd_int] at r; subst r; simp only [partD, Option.some.injEq] at h; exact .inr ⟨i, rfl, h.symm⟩
  | _ => simp [partD] at h
/-- e as a slice's part: None or an int -/
def tPartA (t : TE) : TO := fun σ H Q => t σ H fun x H1 => (x = .non ∧ Q none H1) ∨ ∃ i, x = .int i ∧ Q (some i) H1
theorem po_any {e : Expr} {te : TE} (h : PE X e te) : PO X (some e) (tPartA te) := by
  refine ⟨fun pins s σ H Q I q => ?_⟩
  rw [evalPart_some]
  refine thn (h.run pins s σ H _ I q) fun u s' ⟨x, H', I', r, q⟩ => ?_
  rcases q with ⟨rfl, q⟩ | ⟨i, rfl, q⟩
  · cases r
    exact ⟨none, H', I', .none, q⟩
  · obtain ⟨t, rfl⟩ := r
    exact ⟨some i, H', I', .int i t, q⟩
/-- a slice by values -/
def SlIn (w : World) (K : PySem.W.Frag) : V → Option Int → Option Int → Hp → VK → Prop := fun x lo hi H Q =>
  ∃ a S P, RD K H a x ∧ RS w K H S ∧ slcD a lo hi S P ∧ ∀ d S' v H', P d S' → RD K H' d v → RS w K H' S' → Ext H S H' S' → Q v H'
theorem sl_all : SlR X (SlIn X.w X.K) := by
  intro pins s σ H x v vl vu lo hi sl Q I rx hs p1 p2 ⟨a, S, P, ra, rs, hf, hP⟩
  cases a with
  | tup xs =>
    obtain ⟨p, vs, rfl, h1, r1⟩ := rd_tup.mp ra
    refine sl_tupA pins s σ H _ v vl vu lo hi sl Q I rx hs p1 p2 ⟨p, vs, rfl, h1, fun hc => ?_, fun hc q hq => ?_⟩
    · rw [← r1.length] at hc
      have e : cutD xs lo hi = xs := cut_whole hc
      have hf' : P (.tup (cutD xs lo hi)) S := hf
      rw [e] at hf'
      exact hP _ _ _ _ hf' ra rs .refl
    · exact hP _ _ _ _ hf (rd_tup.mpr ⟨q, _, rfl, .of upd_same, (cut_rd r1 lo hi).keep (tups_new hq)⟩) (rs.new hq) (ext_new hq)
  | ref p =>
    rw [rd_ref] at ra; subst ra
    obtain ⟨xs, e, hf⟩ := hf
    obtain ⟨vs, h1, r1⟩ : ∃ vs, Rd H p (.lst vs) ∧ RDs X.K H xs vs := by
      rcases e with e | e
      · obtain ⟨vs, h1, r1⟩ := rs p _ e; exact ⟨vs, .inl h1, r1⟩
      · obtain ⟨o, vs, h1, r1⟩ := rs p _ e; exact ⟨vs, .inr ⟨o, h1⟩, r1⟩
    exact sl_list pins s σ H _ v vl vu lo hi sl Q I rx hs p1 p2 ⟨p, vs, rfl, .inl h1, fun q hq =>
      hP _ _ _ _ (hf q (rs.free hq)) (rd_ref.mpr rfl) (rs.lay hq ⟨_, upd_same, (cut_rd r1 lo hi).keep (tups_new hq)⟩) (ext_lay hq)⟩
  | str z =>
    rw [rd_str] at ra; subst ra
    refine sl_str pins s σ H _ v vl vu lo hi sl Q I rx hs p1 p2 ⟨z, rfl, hf.1, ?_⟩
    exact hP _ _ _ _ hf.2 (rd_str.mpr (by
      have : (⟨(cutD z.cps.toList lo hi).toArray⟩ : Str) = cutS z lo hi := by
        unfold cutD cutS
        rw [sIx_eq, sIx_eq, Array.length_toList]; rfl
      rw [this])) rs .refl
  | _ => exact hf.elim
/-- a part, by its expression -/
structure PartE (X : Cx) (W : WX) (Γ : List DSp) (fs : List (Str × D)) (e : Option Expr) (a : IE) : Prop where
  run : ∃ t, PO X e t ∧ ∀ {σ : St} {H : Hp} {σd : Env} {S : Sto} {E : EX} {P : Option Int → Sto → Prop} {Q : Option Int → Hp → Prop}, RV X.K H σd σ → RS X.w X.K H S → WR X.w X.K W E σ H S → (wpE Γ fs a E σd S fun d S' => ∃ o, partD d = some o ∧ P o S') →
    (∀ o S' H', P o S' → RS X.w X.K H' S' → Ext H S H' S' → Q o H') → t σ H Q
theorem part_none : PartE X W Γ fs none (.con .non) := ⟨_, po_none, fun rv rs wr ⟨o, e, q⟩ hP => by
  simp only [partD, Option.some.injEq] at e
  subst e
  exact hP _ _ _ q rs .refl⟩
theorem part_some {e : Expr} {a : IE} (h : PE X e (liftE X.w X.K W (wpE Γ fs a))) : PartE X W Γ fs (some e) a := ⟨_, po_any h, fun rv rs wr hw hP =>
  ⟨_, _, _, _, rv, rs, wr, hw, fun d S' v H' ⟨o, eo, q⟩ rd rs' e => by
    rcases part_ok rd eo with ⟨rfl, rfl⟩ | ⟨i, rfl, rfl⟩
    · exact .inl ⟨rfl, hP _ _ _ q rs' e⟩
    · exact .inr ⟨i, rfl, hP _ _ _ q rs' e⟩⟩⟩
theorem e_slc {e : Expr} {lo hi : Option Expr} {a l u : IE} {p2 pos : Pos} (ha : PE X e (liftE X.w X.K W (wpE Γ fs a))) (hl : PartE X W Γ fs lo l) (hu : PartE X W Γ fs hi u) :
    PE X (.Subscript e (.Slice lo hi none p2) pos) (liftE X.w X.K W (wpE Γ fs (.slc a l u))) := by
  obtain ⟨tl, pl, hl⟩ := hl.run
  obtain ⟨tu, pu, hu⟩ := hu.run
  refine peW (pe_slice sl_all ha pl pu) fun σ H Q ⟨σd, S, E, P, rv, rs, wr, hw, hP⟩ => ?_
  refine ⟨σd, S, E, _, rv, rs, wr, hw, fun d S1 v H1 h1 rd rs1 e1 => ?_⟩
  refine hl (rv.keep (e1.tups rs)) rs1 (wr.keep e1) h1 fun dl S2 H2 h2 rs2 e2 => ?_
  refine hu (rv.keep ((e1.trans e2).tups rs)) rs2 (wr.keep (e1.trans e2)) h2 fun du S3 H3 h3 rs3 e3 => ?_
  exact ⟨d, S3, P, rd.keep ((e2.trans e3).tups rs1), rs3, h3, fun d4 S4 v4 H4 h4 rd4 rs4 e4 => hP _ _ _ _ h4 rd4 rs4 (((e1.trans e2).trans e3).trans e4)⟩
end
end TA
set_option Elab.async false
set_option linter.all false
set_option maxRecDepth 100000
/-! TA6c: t[::-1] of tuples and lists, isinstance, subscripts. -/
namespace HT
open PySem PySem.Spec PyProof.Rows
section
variable {prog : Program} {w : World} {A : Around} {E : Value → Shared → Prop} {s : Shared}
theorem ta_sliceApplied_rev {sl : Addr} {vl vu vs : Value} {n : Nat} {Q : Int × Int × Nat → Shared → Prop} (hs : s.heap.IsSliceOf sl vl vu vs) (pl : IsPart vl none) (pu : IsPart vu none) (ps : IsPart vs (some (-1)))
    (h : Q ((n : Int) - 1, -1, n) s) : wpAny (model prog w) A (Builtin.Slice.sliceApplied (.ref sl) (pure (n : Int))) Q E s := by
  obtain ⟨os, hos, hcs, hds⟩ := id hs
  unfold Builtin.Slice.sliceApplied Builtin.Slice.sliceFields
  refine wpAny_bind (wpAny_bind (wpAny_field hos hds (x := vl) rfl (wpAny_bind (wpAny_field hos hds (x := vu) rfl (wpAny_bind (wpAny_field hos hds (x := vs) rfl (wpAny_pure ?_)))))))
  refine wpAny_bind (slicePart_ ps ?_)
  show wpAny _ _ (if ((-1 : Int) == 0) = true then _ else _) _ _ s
  rw [if_neg (by decide)]
  refine wpAny_bind (slicePart_ pl (wpAny_bind (slicePart_ pu (wpAny_bind (wpAny_pure ?_)))))
  show wpAny _ _ (pure ((n : Int) - 1, (-1 : Int), Builtin.Slice.slicePlaces ((n : Int) - 1) (-1) (-1))) _ _ s
  have e : Builtin.Slice.slicePlaces ((n : Int) - 1) (-1) (-1) = n := by
    unfold Builtin.Slice.slicePlaces
    rw [if_neg (by decide)]
    by_cases h : (n : Int) - 1 > -1
    · rw [if_pos h]
      rw [show (- -1 : Int) = 1 by decide, Int.ediv_one]
      omega
    · rw [if_neg h]; omega
  rw [e]
  exact wpAny_pure h
theorem ta_pick_rev (xs : Array Value) : ((List.range xs.size).filterMap fun (k : Nat) => xs[((xs.size : Int) - 1 + (k : Int) * (-1)).toNat]?).toArray = xs.toList.reverse.toArray := by
  have e : ((List.range xs.size).filterMap fun (k : Nat) => xs[((xs.size : Int) - 1 + (k : Int) * (-1)).toNat]?) = ((List.range xs.size).map fun k => xs.size - 1 - k).filterMap (xs[·]?) := by
    rw [List.filterMap_map]
    have gen : ∀ l : List Nat, (∀ k ∈ l, k < xs.size) → l.filterMap (fun (k : Nat) => xs[((xs.size : Int) - 1 + (k : Int) * (-1)).toNat]?) = l.filterMap ((xs[·]?) ∘ fun k => xs.size - 1 - k) := by
      intro l
      induction l with
      | nil => intro _; rfl
      | cons k r ih =>
        intro h
        have hk := h k (List.mem_cons_self ..)
        have e : ((xs.size : Int) - 1 + (k : Int) * (-1)).toNat = xs.size - 1 - k := by omega
        rw [List.filterMap_cons, List.filterMap_cons, ih fun j hj => h j (List.mem_cons_of_mem _ hj)]
        simp only [e, Function.comp]
    exact gen _ fun k hk => List.mem_range.mp hk
  rw [e, PySem.W.krv_range, List.filterMap_reverse, PySem.W.krv_all]
theorem ta_getItem_tuple_rev {t sl : Addr} {items : Array Value} {vl vu vs : Value} {Q : Value → Shared → Prop} (ht : IsTup s.heap t items) (hs : s.heap.IsSliceOf sl vl vu vs) (pl : IsPart vl none) (pu : IsPart vu none) (ps : IsPart vs (some (-1)))
    (h : Q (.ref s.heap.objs.size) { s with heap := s.heap.push { cls := .type "tuple", data := .seq items.toList.reverse.toArray } })
    (hsz : items.size ≤ sizeLine) : wpAny (model prog w) A (getItem (.ref t) (.ref sl)) Q E s := by
  have htake : sizeOk (.seq items.toList.reverse.toArray) := by
    show items.toList.reverse.toArray.size ≤ sizeLine
    rw [List.size_toArray, List.length_reverse, Array.length_toList]
    exact hsz
  obtain ⟨os, hos, hcs, hds⟩ := id hs
  have hTs : s.TypeIs (.ref sl) "slice" := ⟨os, hos, hcs⟩
  unfold getItem
  try with_reducible refine wpAny_holding ?_
  first | refine wpAny_bind (wpAny_pure ?_) | skip
  refine wpAny_bind (wpAny_sequenceKey ht.typeIs (by decide) ?_)
  refine wpAny_bind (wpAny_callSpecial?_slot (name := Str.ofString "__getitem__") ht.typeIs PyProof.Rows.slot_tuple_getitem
    (wpAny_call_entry PyProof.Rows.slot_tuple_getitem ht.typeIs PyProof.Rows.entry_tuple_getitem ?_ (PyProof.Rows.args_tuple_getitem _ _)))
  show wpAny _ _ (Builtin.Tuple.tupleItemsOf (.ref t) >>= _) _ _ s
  refine wpAny_bind (PyProof.Rows.tupleItemsOf_ ht ?_)
  refine wpAny_bind (wpAny_typeOf hTs ?_)
  rw [if_pos (by decide)]
  refine wpAny_bind (ta_sliceApplied_rev hs pl pu ps ?_)
  have hno : ¬ ((((items.size : Int) - 1) == 0 && (-1 : Int) == 1 && items.size == items.size) = true) := by
    intro q
    rw [Bool.and_eq_true, Bool.and_eq_true] at q
    exact absurd q.1.2 (by decide)
  show wpAny _ _ (if (((items.size : Int) - 1) == 0 && (-1 : Int) == 1 && items.size == items.size) = true then _ else _) _ _ s
  rw [if_neg hno, ta_pick_rev]
  first
    | exact wpAny_bind (m := Builtin.Tuple.tupleExact _) (wpAny_newObj_type (wpAny_pure ⟨_, rfl, wpAny_pure h⟩) htake)
    | exact wpAny_bind (m := Builtin.Tuple.tupleExact _) (wpAny_newObj_type (wpAny_bind (wpAny_pure (wpAny_pure ⟨_, rfl, wpAny_pure h⟩))) htake)
    | exact wpAny_bind (wpAny_bind (m := Builtin.Tuple.tupleExact _) (wpAny_newObj_type (wpAny_pure (wpAny_pure ⟨_, rfl, wpAny_pure h⟩)) htake))
    | exact wpAny_bind (wpAny_bind (m := Builtin.Tuple.tupleExact _) (wpAny_newObj_type (wpAny_pure ⟨_, rfl, wpAny_pure h⟩) htake))
end
end HT
namespace TA
open PySem PySem.Spec L2
open PyProof.Rows (subscriptTail)
section
variable {X : Cx} {W : WX} {Γ : List DSp} {fs : List (Str × D)}
/-- t[::-1], a list or a tuple -/
def tRevA (K : PySem.W.Frag) (te : TE) : TE := fun σ H Q => te σ H fun x H1 => ∃ a xs, x = .ref a ∧ ((SqL K H1 a xs ∧ ∀ p, H1 p = none → Q (.ref p) (upd H1 p (.lst xs.reverse))) ∨ (SqT K H1 a xs ∧ ∀ p, H1 p = none → Q (.ref p) (upd H1 p (.tup xs.reverse))))
theorem pe_revA {e : Expr} {te : TE} {k : Nat} {p1 p2 p3 pos : Pos} (he : PE X e te) : PE X (.Subscript e (.Slice none none (some (.UnaryOp .USub (.Constant (.int 1) k p1) p2)) p3) pos) (tRevA X.K te) := by
  refine ⟨fun pins s σ H Q I h => ?_⟩
  refine PyProof.Rows.Subscript_ (thn (he.run pins s σ H _ I h) fun v s1 ⟨x, H1, I1, r1, q1⟩ => ?_)
  obtain ⟨a, xs, ex, q⟩ := q1
  subst ex
  cases r1
  have hst : PO X (some (.UnaryOp .USub (.Constant (.int 1) k p1) p2)) (tPart (tUn (rU fun i => .int (-i)) (tC (.int 1)))) := po_some (pe_un un_neg pe_int)
  refine wpAny_Slice (thn (po_none.run pins s1 σ H1 (fun o H2 => o = none ∧ H2 = H1) I1 ⟨rfl, rfl⟩) fun vl s2 ⟨l, H2, I2, pl, el, e2⟩ => ?_)
  subst el e2
  refine thn (po_none.run pins s2 σ H2 (fun o H3 => o = none ∧ H3 = H2) I2 ⟨rfl, rfl⟩) fun vu s3 ⟨u, H3, I3, pu, eu, e3⟩ => ?_
  subst eu e3
  refine thn (hst.run pins s3 σ H3 (fun o H4 => o = some (-1) ∧ H4 = H3) I3 ⟨1, rfl, -1, rfl, rfl, rfl⟩) fun vs s4 ⟨o, H4, I4, ps, eo, e4⟩ => ?_
  subst eo e4
  have I5 : Inv X pins σ H4 { s4 with heap := s4.heap.push { cls := .type "slice", data := .fields #[vl, vu, vs] } } := I4.kept (t' := s4.toks) fun b ob q => Heap.get?_push_of_some _ q
  rcases q with ⟨hx, q⟩ | ⟨hx, q⟩
  · obtain ⟨its, r, ht, hz⟩ := I5.list hx
    have hlen := r.length
    show wpAny (model X.prog X.w) X.A (subscriptTail e (.Slice none none (some (.UnaryOp .USub (.Constant (.int 1) k p1) p2)) p3) (.ref a) (.ref s4.heap.objs.size)) (EP X pins σ Q) X.xe { s4 with heap := s4.heap.push { cls := .type "slice", data := .fields #[vl, vu, vs] } }
    refine PyProof.Rows.tail_any (ops := [.ref a, .ref s4.heap.objs.size]) ht.isList.typeIs (PySem.slot_list_getitem.lookup) ?_ (by with_unfolding_all rfl)
    refine wpAny_getItem_list_slice ht.isList (Heap.IsSliceOf.new _ vl vu vs) pl pu ps (by decide) ?_ (by rw [List.size_toArray]; omega)
    rw [PySem.W.krv_pick]
    refine ⟨.ref _, _, I5.laid (t' := s4.toks) (o := .lst xs.reverse) (fun b ob q => Heap.get?_push_of_some _ q) (Nat.le_refl _) ?_, rfl, q _ (I5.hok.fresh (Nat.le_refl _))⟩
    exact ⟨by rw [List.length_reverse]; exact hz, _, 0, r.reverse, Heap.get?_push_size _ rfl⟩
  · obtain ⟨its, r, ht, hz⟩ := I5.tuple hx
    have hlen := r.length
    show wpAny (model X.prog X.w) X.A (subscriptTail e (.Slice none none (some (.UnaryOp .USub (.Constant (.int 1) k p1) p2)) p3) (.ref a) (.ref s4.heap.objs.size)) (EP X pins σ Q) X.xe { s4 with heap := s4.heap.push { cls := .type "slice", data := .fields #[vl, vu, vs] } }
    refine PyProof.Rows.tail_any (ops := [.ref a, .ref s4.heap.objs.size]) ht.typeIs (PyProof.Rows.slot_tuple_getitem.lookup) ?_ (by with_unfolding_all rfl)
    refine HT.ta_getItem_tuple_rev ht (Heap.IsSliceOf.new _ vl vu vs) pl pu ps ?_ (by rw [List.size_toArray]; omega)
    refine ⟨.ref (s4.heap.objs.size + 1), upd H4 (s4.heap.objs.size + 1) (.tup xs.reverse), ?_, ?_, q _ (I5.hok.fresh (by rw [show (Heap.push s4.heap _).objs.size = s4.heap.objs.size + 1 from by simp [Heap.push]]; exact Nat.le_refl _))⟩
    · refine I5.laid (t' := s4.toks) (o := .tup xs.reverse) (fun b ob q => Heap.get?_push_of_some _ q) (by rw [show (Heap.push s4.heap _).objs.size = s4.heap.objs.size + 1 from by simp [Heap.push]]; exact Nat.le_refl _) ?_
      refine ⟨by rw [List.length_reverse]; exact hz, its.reverse, r.reverse, ?_⟩
      have ez : (Heap.push s4.heap { cls := .type "slice", data := .fields #[vl, vu, vs] }).objs.size = s4.heap.objs.size + 1 := by simp [Heap.push]
      have hg : (Heap.push (Heap.push s4.heap { cls := .type "slice", data := .fields #[vl, vu, vs] }) { cls := .type "tuple", data := .seq its.reverse.toArray }).get? (s4.heap.objs.size + 1) = some { cls := .type "tuple", data := .seq its.reverse.toArray } := by
        rw [← ez]; exact Heap.get?_push_size _ rfl
      exact ⟨_, hg, rfl, _, rfl⟩
    · show Value.ref _ = Value.ref _
      simp [Heap.push]
theorem e_rev {e : Expr} {a : IE} {k : Nat} {p1 p2 p3 pos : Pos} (ha : PE X e (liftE X.w X.K W (wpE Γ fs a))) : PE X (.Subscript e (.Slice none none (some (.UnaryOp .USub (.Constant (.int 1) k p1) p2)) p3) pos) (liftE X.w X.K W (wpE Γ fs (.rev a))) :=
  peW (pe_revA ha) fun σ H Q ⟨σd, S, E, P, rv, rs, wr, hw, hP⟩ =>
    ⟨σd, S, E, _, rv, rs, wr, hw, fun d S1 v H1 h1 rd rs1 e1 => by
      cases d with
      | tup xs =>
        obtain ⟨p, vs, rfl, h2, r2⟩ := rd_tup.mp rd
        exact ⟨p, vs, rfl, .inr ⟨h2, fun q hq => hP _ _ _ _ h1 (rd_tup.mpr ⟨q, _, rfl, .of upd_same, r2.reverse.keep (tups_new hq)⟩) (rs1.new hq) (e1.trans (ext_new hq))⟩⟩
      | ref p =>
        rw [rd_ref] at rd; subst rd
        obtain ⟨xs, e, hf⟩ := h1
        obtain ⟨vs, h2, r2⟩ := rs1 p _ e
        exact ⟨p, vs, rfl, .inl ⟨.of h2, fun q hq => hP _ _ _ _ (hf q (rs1.free hq)) (rd_ref.mpr rfl) (rs1.lay hq ⟨_, upd_same, r2.reverse.keep (tups_new hq)⟩) (e1.trans (ext_lay hq))⟩⟩
      | _ => exact h1.elim⟩
/-! ### subscripts -/
/-- a dict's subscript, by values (the dicts' own file gives it) -/
def DctGet (X : Cx) : Prop := OpR X getItem (liftR X.w X.K fun x y S Q => ∃ a kvs g v, x = .ref a ∧ S a = some (.dct kvs g) ∧ fitK y kvs = true ∧ keyD y kvs = some v ∧ Q v S)
def rIxD (w : World) (K : PySem.W.Frag) : R2 := liftR w K fun x y S Q => ∃ a kvs g v, x = .ref a ∧ S a = some (.dct kvs g) ∧ fitK y kvs = true ∧ keyD y kvs = some v ∧ Q v S
theorem ixr_cases {r : R2} (h : ∀ pins s σ H x y v u Q, Inv X pins σ H s → RelV x v → RelV y u → r x y H Q → ∃ r', IxR X r' ∧ r' x y H Q) : IxR X r :=
  fun a b pins s σ H x y v u Q I rx ry q hp => by
    obtain ⟨r', o, q'⟩ := h pins s σ H x y v u Q I rx ry q
    exact o a b pins s σ H x y v u Q I rx ry q' hp
theorem ix_all (hd : IxR X (rIxD X.w X.K)) : IxR X (liftR X.w X.K idxD) := ixr_cases fun pins s σ H x y v u Q I rx ry ⟨a, b, S, P, ra, rb, rs, hf, hP⟩ => by
  cases a with
  | tup xs =>
    cases b with
    | int k =>
      obtain ⟨p, vs, rfl, h1, r1⟩ := rd_tup.mp ra
      rw [rd_int] at rb; subst rb
      simp only [idxD] at hf
      split at hf
      · rename_i d e
        obtain ⟨v, ev, rv⟩ := ixD_at r1 e
        exact ⟨_, ix_tup, p, vs, k, v, rfl, rfl, h1, ev, hP _ _ _ _ hf rv rs .refl⟩
      · exact hf.elim
    | _ => exact hf.elim
  | str z =>
    cases b with
    | int k =>
      rw [rd_str] at ra; rw [rd_int] at rb; subst ra rb
      simp only [idxD] at hf
      obtain ⟨hz, hf⟩ := hf
      split at hf
      · rename_i c e
        have ev : atI z.cps.toList k = some c := by
          unfold ixD at e
          unfold atI ixN
          split at e
          · rename_i h0
            obtain ⟨hl, _⟩ := List.getElem?_eq_some_iff.mp e
            rw [if_pos h0, if_pos (by omega)]; exact e
          · rename_i h0
            split at e
            · rename_i h1
              rw [if_neg h0, if_pos h1]; exact e
            · cases e
        exact ⟨_, ix_str, z, k, c, rfl, rfl, hz, ev, hP _ _ _ _ hf (rd_str.mpr rfl) rs .refl⟩
      · exact hf.elim
    | _ => exact hf.elim
  | ref p =>
    cases hS : S p with
    | none => simp only [idxD, hS] at hf
    | some o =>
      cases o with
      | lst xs =>
        cases b with
        | int k =>
          simp only [idxD, hS] at hf
          rw [rd_ref] at ra; subst ra
          rw [rd_int] at rb; subst rb
          obtain ⟨vs, h1, r1⟩ := rs p _ hS
          split at hf
          · rename_i d e'
            obtain ⟨v, ev, rv⟩ := ixD_at r1 e'
            exact ⟨_, ix_list, p, vs, k, v, rfl, rfl, .of h1, ev, hP _ _ _ _ hf rv rs .refl⟩
          · exact hf.elim
        | _ => simp only [idxD, hS] at hf
      | dct kvs g =>
        simp only [idxD, hS] at hf
        obtain ⟨hk, hf⟩ := hf
        split at hf
        · rename_i d e'
          exact ⟨_, hd, .ref p, b, S, P, ra, rb, rs, ⟨p, kvs, g, d, rfl, hS, hk, e', hf⟩, hP⟩
        · exact hf.elim
      | ins c f => simp only [idxD, hS] at hf
      | fzl f => simp only [idxD, hS] at hf
  | _ => exact hf.elim
theorem e_idx (hd : IxR X (rIxD X.w X.K)) {e1 e2 : Expr} {a b : IE} {pos : Pos} (ha : PE X e1 (liftE X.w X.K W (wpE Γ fs a))) (hb : PE X e2 (liftE X.w X.K W (wpE Γ fs b))) (hs : PlainIx e2) :
    PE X (.Subscript e1 e2 pos) (liftE X.w X.K W (wpE Γ fs (.idx a b))) := e_op2 (fun x y => pe_ix (ix_all hd) x y hs) ha hb fun _ _ _ _ h => h
end
end TA
set_option Elab.async false
set_option linter.all false
set_option maxRecDepth 100000
set_option maxHeartbeats 2000000
/-! TA6d: defs run where no guard stands (repr wants that): FnOk with A.guards = some [] ahead. -/
namespace TA
open PySem PySem.Spec L2 PyProof.Rows
structure FnOkG (P : Program) (w : World) (K : PySem.W.Frag) (mg : Str → Option Value) (base : Heap) (CX : CXT) (k : Nat) (f : Addr) (fd : FuncData) (ps : List Str) (sp : Sp) : Prop where
  len : ∀ vs H Q E, sp vs H Q E → vs.length = ps.length
  run : ∀ (A : Around) (outer : List PySem.Env) (s : Shared) (H : Hp) (args : Args) (us : List Value) (vs : List V) (Q : VK) (E : XK), A.guards = some [] → Room k A → Env0 P w K mg base A outer s H → BindsTo s fd args (ps.zip us) → Vals vs us → sp vs H Q E →
    codeAny (model P w) A (.call (.ref f) args) (CR CX outer P w H s Q E) s
theorem FnOkG.of {P : Program} {w : World} {K : PySem.W.Frag} {mg : Str → Option Value} {base : Heap} {CX : CXT} {k : Nat} {f : Addr} {fd : FuncData} {ps : List Str} {sp : Sp} (F : FnOk P w K mg base CX k f fd ps sp) : FnOkG P w K mg base CX k f fd ps sp :=
  ⟨F.len, fun A outer s H args us vs Q E _ hr => F.run A outer s H args us vs Q E hr⟩
theorem FnOkG.mono {P : Program} {w : World} {K : PySem.W.Frag} {mg : Str → Option Value} {base : Heap} {CX : CXT} {j k : Nat} {f : Addr} {fd : FuncData} {ps : List Str} {sp : Sp} (F : FnOkG P w K mg base CX j f fd ps sp) (h : j ≤ k) :
    FnOkG P w K mg base CX k f fd ps sp := ⟨F.len, fun A outer s H args us vs Q E g hr => F.run A outer s H args us vs Q E g (hr.mono h)⟩
section
variable {X : Cx} {CX : CXT} {k : Nat} {f C : Addr} {fd : FuncData} {ps : List Str} {sp : Sp} {dvs : List V} {ds : List Value} {E : L2.St → XK} {x m : Str} {p pos apos : Pos} {e o : Expr} {es : List Expr} {ta : TE} {t : L2.TA}
theorem run_fnG {pins : List (Addr × Obj)} {σ : L2.St} {H : Hp} {s : Shared} {Q : VK} {us : List Value} {vs : List V} (F : FnOkG X.prog X.w X.K X.mg X.base CX k f fd ps sp) (hG : X.A.guards = some []) (hr : Room k X.A) (hb : Binds X.K fd ps ds) (hd : Vals dvs ds) (hx : PassesAt CX X σ (E σ))
    (I : L2.Inv X pins σ H s) (r : Vals vs us) (h : sp (vs ++ dvs) H Q (E σ)) : wpAny (model X.prog X.w) X.A (call (.ref f) us) (EP X pins σ Q) X.xe s := by
  have r2 : Vals (vs ++ dvs) (us ++ ds) := r.append hd
  have hl : (us ++ ds).length = ps.length := by rw [← r2.length]; exact F.len _ _ _ _ h
  refine wpAny_call (codeAny_mono (F.run X.A X.stack s H ⟨us, []⟩ (us ++ ds) (vs ++ dvs) Q (E σ) hG hr I.env0 (hb s us I.kIn hl) r2 h) fun r s' hq => ?_)
  cases r with
  | error e => exact hx pins H s e s' I hq
  | ok fl =>
    cases fl with
    | ret u => exact I.after hq
    | next => exact False.elim hq
    | brk => exact False.elim hq
    | cont => exact False.elim hq
theorem pe_callG (F : FnOkG X.prog X.w X.K X.mg X.base CX k f fd ps sp) (hG : X.A.guards = some []) (hr : Room k X.A) (hg : Gl X x) (hm : X.mg x = some (.ref f)) (hk : PySem.W.keepIn X.K (.ref f) = true) (hb : Binds X.K fd ps ds) (hd : Vals dvs ds) (hx : ∀ σ, PassesAt CX X σ (E σ))
    (ha : PA X (e :: es) t) (hdb : (x == ("__debug__" : Str)) = false) (he : starEach (e :: es) X.env = (false, eval e X.env) :: starEach es X.env) (hpl : (backTo pos (starEach es X.env)).any (·.1) = false) :
    PE X (.Call (.Name x p) (e :: es) [] pos) (tCallSD sp dvs E t) := by
  refine ⟨fun pins s σ H Q I h => ?_⟩
  refine wpAny_Call_Name_kw (ld_glob I hg hm ?_ hdb)
  refine PySem.W.callWith_K (h₀ := X.base) I.ok.mod.kin hk (thn (ha.run pos pins s σ H _ I h) fun us s1 ⟨vs, H1, I1, r, q⟩ => ⟨I1.kIn, ?_⟩) he hpl
  exact run_fnG F hG hr hb hd (hx σ) I1 r q
end
theorem fn_ofG {CX : CXT} {P : Program} {w : World} {K : PySem.W.Frag} {mg : Str → Option Value} {base : Heap} {k : Nat} {f : Addr} {name qual : Str} {params : Arguments} {body : List Stmt} {scope : Scope} {dV kV doc pm cdv ct oc : Value} {an od : Option Addr}
    {osl : Array (Option Value)} {N ps : List Str} {sp : Sp} (lk : K.lookup f = some ⟨oc, od, .func (PySem.W.fnOf name qual params body scope dV kV doc pm an cdv ct), osl⟩) (hcd : PySem.W.codeIn K cdv qual = true) (S : FnScope N ps scope)
    (len : ∀ vs H Q E, sp vs H Q E → vs.length = ps.length)
    (hbody : ∀ (A : Around) (outer : List PySem.Env) (s : Shared) (H : Hp) (vs : List V) (Q : VK) (E : XK), A.guards = some [] → Room k (A.deeper (envOfC qual scope s.heap.objs.size f cdv)) → sp vs H Q E →
      ∃ t, PSs (cxOf CX P w K mg base N qual scope f cdv A outer s H E) body t ∧ t { nx := fun _ H' => Q .non H', rt := Q } (L2.start N vs) H) :
    FnOkG P w K mg base CX (k + 1) f (PySem.W.fnOf name qual params body scope dV kV doc pm an cdv ct) ps sp := by
  refine ⟨len, fun A outer s H args us vs Q E hG hr e0 hb r hsp => ?_⟩
  have hl := len _ _ _ _ hsp
  have KX : K.In s.heap := e0.mod.kin.keeps fun b o e => (e0.bs b o e).1
  have lim : s.heap.NoLimit := e0.mod.nolimit.keeps fun b o e => (e0.bs b o e).1
  have hkind : ∀ y ∈ ps.zip us, scope.names.lookup y.1 = some .local ∨ (scope.names.lookup y.1 = some .cell ∧ ((cellsFrom (s.heap.objs.size + 1) scope.names []).lookup y.1).isSome = true) := fun ⟨n, v⟩ hy => by
    rcases S.par n (List.of_mem_zip hy).1 with q | q
    · exact .inl q
    · exact .inr ⟨q, PySem.W.cellsFrom_some _ _ _ (.inl q)⟩
  refine codeAny_call_function hr.depth (KX _ _ lk) rfl S.co S.gen rfl (PySem.W.codeRec_of KX hcd) (hb _ _ _ _ ?_)
  refine wpAny_newFunctionEnv_cells S.kind hkind fun env he s1 x => ?_
  subst he
  refine ⟨lim.keeps x.toInCall.keep, codeAny_func ?_⟩
  obtain ⟨t, ht, hq⟩ := hbody A outer s H vs Q E hG (hr.deeper _) hsp
  have I : L2.Inv (cxOf CX P w K mg base N qual scope f cdv A outer s H E) [] (L2.start N vs) H s1 := inv_start S hr.hd e0 hl r x
  refine wpAny_mono (ht.run [] s1 (L2.start N vs) H _ I hq) (fun fl s' hs => ?_) fun e s' hs => hs
  have fin : ∀ {σ' : L2.St} {H' : Hp} {v : V} {u : Value}, Inv (cxOf CX P w K mg base N qual scope f cdv A outer s H E) [] σ' H' s' → RelV v u → Q v H' → CE outer P w H s Q u s' :=
    fun {σ' H' v u} J rv q => ⟨v, H', J.os, J.bare, J.base, J.hok, rv, q⟩
  cases fl with
  | ret u =>
    obtain ⟨v, σ', H', J, rv, q⟩ := hs
    exact fin J rv q
  | next =>
    obtain ⟨σ', H', J, q⟩ := hs
    exact fin (v := V.non) (u := Value.none) J rfl q
  | brk =>
    obtain ⟨_, _, _, q⟩ := hs
    exact False.elim q
  | cont =>
    obtain ⟨_, _, _, q⟩ := hs
    exact False.elim q
section
variable {P : Program} {w : World} {K : PySem.W.Frag} {mg : Str → Option Value} {base : Heap} {x qual : Str} {params : Arguments} {body : List Stmt} {scope : Scope} {dvs : List V} {kws : List (Str × V)} {f : Addr} {fd : FuncData}
theorem okG {CX : CXT} {N ps : List Str} {k : Nat} {sp : Sp} (F : FunD K x qual params body scope dvs kws f fd) (S : FnScope N ps scope) (len : ∀ vs H Q E, sp vs H Q E → vs.length = ps.length)
    (hbody : ∀ (cdv : Value) (A : Around) (outer : List PySem.Env) (s : Shared) (H : Hp) (vs : List V) (Q : VK) (E : XK), A.guards = some [] → Room k (A.deeper (envOfC qual scope s.heap.objs.size f cdv)) → sp vs H Q E →
      ∃ t, PSs (cxOf CX P w K mg base N qual scope f cdv A outer s H E) body t ∧ t { nx := fun _ H' => Q .non H', rt := Q } (L2.start N vs) H) : FnOkG P w K mg base CX (k + 1) f fd ps sp := by
  obtain ⟨oc, od, dV, kV, doc, pm, an, cdv, ct, osl, rfl, lk, hcd, _, _⟩ := F.ex
  exact fn_ofG lk hcd S len fun A outer s H vs Q E hG hr hsp => hbody cdv A outer s H vs Q E hG hr hsp
end
example {A : Around} {env : PySem.Env} : (A.deeper env).guards = A.guards := rfl
example {A : Around} : A.in1.guards = A.guards := rfl
end TA
set_option Elab.async false
set_option linter.all false
set_option maxRecDepth 100000
/-! TA7: calls of defs and of built-ins, methods, isinstance. -/
namespace TA
open PySem PySem.Spec L2
/-- a promise about data, as the layer's promise -/
def liftSp (w : World) (K : PySem.W.Frag) (sp : DSp) : Sp := fun vs H Q E => ∃ ds S P Pe, RDs K H ds vs ∧ RS w K H S ∧ sp ds S P Pe ∧
  (∀ d S' v H', P d S' → RD K H' d v → RS w K H' S' → Ext H S H' S' → Q v H') ∧ (∀ c fs S' cls d H', Pe c fs S' → RX K H' c fs cls d → RS w K H' S' → Ext H S H' S' → E cls d H')
section
variable {X : Cx} {W : WX} {Γ : List DSp} {fs : List (Str × D)}
theorem e_fn {k : Nat} {f : Addr} {fd : FuncData} {ps : List Str} {sp : DSp} {x : Str} {p pos : Pos} {e : Expr} {es : List Expr} {i : Nat} {as : IEs}
    (F : FnOkG X.prog X.w X.K X.mg X.base (L2.CX X.prog X.w) k f fd ps (liftSp X.w X.K sp)) (hG : X.A.guards = some []) (hr : Room k X.A) (hg : Gl X x) (hm : X.mg x = some (.ref f)) (hk : PySem.W.keepIn X.K (.ref f) = true) (hb : Binds X.K fd ps []) (tk : Takes X W)
    (hi : Γ[i]? = some sp) (ha : PA X (e :: es) (liftEs X.w X.K W (es.length + 1) (wpEs Γ fs as))) (hdb : (x == ("__debug__" : Str)) = false) (he : starEach (e :: es) X.env = (false, eval e X.env) :: starEach es X.env)
    (hpl : (backTo pos (starEach es X.env)).any (·.1) = false) : PE X (.Call (.Name x p) (e :: es) [] pos) (liftE X.w X.K W (wpE Γ fs (.fn i as))) :=
  peW (pe_callG (E := WE W) F hG hr hg hm hk hb .nil (fun σ => passAt tk σ) ha hdb he hpl) fun σ H Q ⟨σd, S, E, P, rv, rs, wr, hw, hP⟩ =>
    ⟨σd, S, E, _, rv, rs, wr, hw, fun ds S1 vs H1 h1 _ rds rs1 e1 => by
      rw [hi] at h1
      rw [List.append_nil]
      exact ⟨ds, S1, P, E, rds, rs1, h1, fun d S' v H' hp rd rs' e' => hP _ _ _ _ hp rd rs' (e1.trans e'), fun c gs S' cls d H' hp rx rs' e' => wr c gs S' cls d H' hp rx rs' (e1.trans e')⟩⟩
/-- f() -/
theorem e_fn0 {k : Nat} {f : Addr} {fd : FuncData} {ps : List Str} {sp : DSp} {x : Str} {p pos : Pos} {i : Nat}
    (F : FnOkG X.prog X.w X.K X.mg X.base (L2.CX X.prog X.w) k f fd ps (liftSp X.w X.K sp)) (hG : X.A.guards = some []) (hr : Room k X.A) (hg : Gl X x) (hm : X.mg x = some (.ref f)) (hk : PySem.W.keepIn X.K (.ref f) = true) (hb : Binds X.K fd ps []) (tk : Takes X W)
    (hi : Γ[i]? = some sp) (hdb : (x == ("__debug__" : Str)) = false) : PE X (.Call (.Name x p) [] [] pos) (liftE X.w X.K W (wpE Γ fs (.fn i .nil))) := by
  refine ⟨fun pins s σ H Q I ⟨σd, S, E, P, rv, rs, wr, hw, hP⟩ => ?_⟩
  refine wpAny_Call_Name_kw (ld_glob I hg hm ?_ hdb)
  refine PySem.W.callWith_K0 I.kIn hk (run_fnG (us := []) (E := WE W) F hG hr hb .nil (passAt tk σ) I .nil ?_)
  simp only [wpE, wpEs, hi] at hw
  exact ⟨[], S, P, E, .nil, rs, hw, fun d S' v H' hp rd rs' e' => hP _ _ _ _ hp rd rs' e', fun c gs S' cls d H' hp rx rs' e' => wr c gs S' cls d H' hp rx rs' e'⟩
def liftCall (X : Cx) (b : Bi) : List V → Hp → VK → Prop := liftRs X.w X.K (biD b)
theorem e_bi {b : Bi} {id : String} {x : Str} {p pos : Pos} {e : Expr} {es : List Expr} {as : IEs} (hc : CallR X (.builtin id) (liftCall X b)) (hg : Gl X x) (hm : X.mg x = none) (hv : bootBuiltins x = some (.builtin id))
    (ha : PA X (e :: es) (liftEs X.w X.K W (es.length + 1) (wpEs Γ fs as))) (hn : x ≠ "__name__") (hdb : (x == ("__debug__" : Str)) = false)
    (he : starEach (e :: es) X.env = (false, eval e X.env) :: starEach es X.env) (hpl : (backTo pos (starEach es X.env)).any (·.1) = false) : PE X (.Call (.Name x p) (e :: es) [] pos) (liftE X.w X.K W (wpE Γ fs (.bi b as))) :=
  peW (pe_callB hc hg hm hv ha hn hdb he hpl) fun σ H Q ⟨σd, S, E, P, rv, rs, wr, hw, hP⟩ =>
    ⟨σd, S, E, _, rv, rs, wr, hw, fun ds S1 vs H1 h1 _ rds rs1 e1 => ⟨ds, S1, P, rds, rs1, h1, fun d S' v H' hp rd rs' e' => hP _ _ _ _ hp rd rs' (e1.trans e')⟩⟩
theorem e_biT {b : Bi} {id : String} {x : Str} {p pos : Pos} {e : Expr} {es : List Expr} {as : IEs} (hc : CallR X (.type id) (liftCall X b)) (hg : Gl X x) (hm : X.mg x = none) (hv : bootBuiltins x = some (.type id))
    (ha : PA X (e :: es) (liftEs X.w X.K W (es.length + 1) (wpEs Γ fs as))) (hn : x ≠ "__name__") (hdb : (x == ("__debug__" : Str)) = false)
    (he : starEach (e :: es) X.env = (false, eval e X.env) :: starEach es X.env) (hpl : (backTo pos (starEach es X.env)).any (·.1) = false) : PE X (.Call (.Name x p) (e :: es) [] pos) (liftE X.w X.K W (wpE Γ fs (.bi b as))) :=
  peW (pe_callTy hc hg hm hv ha hn hdb he hpl) fun σ H Q ⟨σd, S, E, P, rv, rs, wr, hw, hP⟩ =>
    ⟨σd, S, E, _, rv, rs, wr, hw, fun ds S1 vs H1 h1 _ rds rs1 e1 => ⟨ds, S1, P, rds, rs1, h1, fun d S' v H' hp rd rs' e' => hP _ _ _ _ hp rd rs' (e1.trans e')⟩⟩
/-! ### built-ins by values -/
theorem callr_cases {f : Value} {r : List V → Hp → VK → Prop} (h : ∀ pins s σ H xs us Q, L2.Inv X pins σ H s → Vals xs us → r xs H Q → ∃ r', CallR X f r' ∧ r' xs H Q) : CallR X f r :=
  fun pins s σ H xs us Q I rx q => by
    obtain ⟨r', o, q'⟩ := h pins s σ H xs us Q I rx q
    exact o pins s σ H xs us Q I rx q'
theorem rds1 {K H x vs} (h : RDs K H [x] vs) : ∃ v, vs = [v] ∧ RD K H x v := by
  obtain ⟨v, us, rfl, h1, h2⟩ := h.uncons
  simp only [RDs] at h2; subst h2
  exact ⟨v, rfl, h1⟩
theorem rds2 {K H x y vs} (h : RDs K H [x, y] vs) : ∃ v u, vs = [v, u] ∧ RD K H x v ∧ RD K H y u := by
  obtain ⟨v, us, rfl, h1, h2⟩ := h.uncons
  obtain ⟨u, rfl, h3⟩ := rds1 h2
  exact ⟨v, u, rfl, h1, h3⟩
theorem boolsD_map {K H} : ∀ {xs : List D} {bs : List Bool} {vs : List V}, boolsD xs = some bs → RDs K H xs vs → vs = bs.map V.bl
  | [], bs, vs, h, r => by simp only [boolsD, Option.some.injEq] at h; subst h; simpa [RDs] using r
  | x :: xs, bs, vs, h, r => by
    obtain ⟨v, us, rfl, h1, h2⟩ := r.uncons
    cases x with
    | bl b =>
      simp only [boolsD, Option.map_eq_some_iff] at h
      obtain ⟨q, h, rfl⟩ := h
      rw [rd_bl] at h1; subst h1
      rw [boolsD_map h h2]; rfl
    | _ => simp [boolsD] at h
theorem intsD_map {K H} : ∀ {xs : List D} {bs : List Int} {vs : List V}, intsD xs = some bs → RDs K H xs vs → vs = bs.map V.int
  | [], bs, vs, h, r => by simp only [intsD, Option.some.injEq] at h; subst h; simpa [RDs] using r
  | x :: xs, bs, vs, h, r => by
    obtain ⟨v, us, rfl, h1, h2⟩ := r.uncons
    cases x with
    | int b =>
      simp only [intsD, Option.map_eq_some_iff] at h
      obtain ⟨q, h, rfl⟩ := h
      rw [rd_int] at h1; subst h1
      rw [intsD_map h h2]; rfl
    | _ => simp [intsD] at h
theorem one_rd {K H} {ds : List D} {f : D → Prop} {vs : List V} (h : one ds f) (r : RDs K H ds vs) : ∃ x v, ds = [x] ∧ vs = [v] ∧ RD K H x v ∧ f x := by
  unfold one at h
  split at h
  · obtain ⟨v, rfl, rv⟩ := rds1 r; exact ⟨_, v, rfl, rfl, rv, h⟩
  · exact h.elim
theorem two_rd {K H} {ds : List D} {f : D → D → Prop} {vs : List V} (h : two ds f) (r : RDs K H ds vs) : ∃ x y v u, ds = [x, y] ∧ vs = [v, u] ∧ RD K H x v ∧ RD K H y u ∧ f x y := by
  unfold two at h
  split at h
  · obtain ⟨v, u, rfl, rv, ru⟩ := rds2 r; exact ⟨_, _, v, u, rfl, rfl, rv, ru, h⟩
  · exact h.elim
theorem refL_rd {w K H} {S : Sto} {x : D} {v : V} {f : List D → Prop} (h : refL S x f) (rs : RS w K H S) (r : RD K H x v) : ∃ a xs vs, x = .ref a ∧ v = .ref a ∧ S a = some (.lst xs) ∧ H a = some (.lst vs) ∧ RDs K H xs vs ∧ f xs := by
  unfold refL at h
  split at h
  · split at h
    · rename_i xs e
      rw [rd_ref] at r; subst r
      obtain ⟨vs, h1, r1⟩ := rs _ _ e
      exact ⟨_, xs, vs, rfl, rfl, e, h1, r1, h⟩
    · exact h.elim
  · exact h.elim
theorem onI_rd {K H} {x : D} {v : V} {f : Int → Prop} (h : onI x f) (r : RD K H x v) : ∃ i, x = .int i ∧ v = .int i ∧ f i := by
  unfold onI at h
  split at h
  · rw [rd_int] at r; exact ⟨_, rfl, r, h⟩
  · exact h.elim
theorem c_all (hc : X.calm = true) : CallR X (.builtin "all") (liftCall X .all) := callr_cases fun pins s σ H xs us Q I rx ⟨ds, S, P, rds, rs, hf, hP⟩ => by
  obtain ⟨x, v, rfl, rfl, rv, hf⟩ := one_rd hf rds
  obtain ⟨a, ys, vs, rfl, rfl, e1, h1, r1, bs, e2, hf⟩ := refL_rd hf rs rv
  have ev := boolsD_map e2 r1; subst ev
  exact ⟨_, cr_all hc, _, bs, rfl, .of h1, hP _ _ _ _ hf (rd_bl.mpr rfl) rs .refl⟩
theorem c_any (hc : X.calm = true) : CallR X (.builtin "any") (liftCall X .any) := callr_cases fun pins s σ H xs us Q I rx ⟨ds, S, P, rds, rs, hf, hP⟩ => by
  obtain ⟨x, v, rfl, rfl, rv, hf⟩ := one_rd hf rds
  obtain ⟨a, ys, vs, rfl, rfl, e1, h1, r1, bs, e2, hf⟩ := refL_rd hf rs rv
  have ev := boolsD_map e2 r1; subst ev
  exact ⟨_, cr_any hc, _, bs, rfl, .of h1, hP _ _ _ _ hf (rd_bl.mpr rfl) rs .refl⟩
theorem c_sum (hc : X.calm = true) : CallR X (.builtin "sum") (liftCall X .sum) := callr_cases fun pins s σ H xs us Q I rx ⟨ds, S, P, rds, rs, hf, hP⟩ => by
  obtain ⟨x, v, rfl, rfl, rv, hf⟩ := one_rd hf rds
  obtain ⟨a, ys, vs, rfl, rfl, e1, h1, r1, bs, e2, hf⟩ := refL_rd hf rs rv
  have ev := intsD_map e2 r1; subst ev
  exact ⟨_, cr_sum hc, _, bs, rfl, .of h1, hP _ _ _ _ hf (rd_int.mpr rfl) rs .refl⟩
theorem c_min1 (hc : X.calm = true) : CallR X (.builtin "min") (liftCall X .min1) := callr_cases fun pins s σ H xs us Q I rx ⟨ds, S, P, rds, rs, hf, hP⟩ => by
  obtain ⟨x, v, rfl, rfl, rv, hf⟩ := one_rd hf rds
  obtain ⟨a, ys, vs, rfl, rfl, e1, h1, r1, bs, e2, hn, hf⟩ := refL_rd hf rs rv
  have ev := intsD_map e2 r1; subst ev
  exact ⟨_, cr_min hc, _, bs, rfl, .of h1, List.length_pos_iff.mpr hn, fun m hm hl => hP _ _ _ _ (hf m hm hl) (rd_int.mpr rfl) rs .refl⟩
theorem c_max1 (hc : X.calm = true) : CallR X (.builtin "max") (liftCall X .max1) := callr_cases fun pins s σ H xs us Q I rx ⟨ds, S, P, rds, rs, hf, hP⟩ => by
  obtain ⟨x, v, rfl, rfl, rv, hf⟩ := one_rd hf rds
  obtain ⟨a, ys, vs, rfl, rfl, e1, h1, r1, bs, e2, hn, hf⟩ := refL_rd hf rs rv
  have ev := intsD_map e2 r1; subst ev
  exact ⟨_, cr_max hc, _, bs, rfl, .of h1, List.length_pos_iff.mpr hn, fun m hm hl => hP _ _ _ _ (hf m hm hl) (rd_int.mpr rfl) rs .refl⟩
theorem c_min2 (hc : X.calm = true) : CallR X (.builtin "min") (liftCall X .min2) := callr_cases fun pins s σ H xs us Q I rx ⟨ds, S, P, rds, rs, hf, hP⟩ => by
  obtain ⟨x, y, v, u, rfl, rfl, rv, ru, hf⟩ := two_rd hf rds
  obtain ⟨i, rfl, rfl, hf⟩ := onI_rd hf rv
  obtain ⟨j, rfl, rfl, hf⟩ := onI_rd hf ru
  exact ⟨_, call_min2 hc, i, j, rfl, hP _ _ _ _ hf (rd_int.mpr rfl) rs .refl⟩
theorem c_max2 (hc : X.calm = true) : CallR X (.builtin "max") (liftCall X .max2) := callr_cases fun pins s σ H xs us Q I rx ⟨ds, S, P, rds, rs, hf, hP⟩ => by
  obtain ⟨x, y, v, u, rfl, rfl, rv, ru, hf⟩ := two_rd hf rds
  obtain ⟨i, rfl, rfl, hf⟩ := onI_rd hf rv
  obtain ⟨j, rfl, rfl, hf⟩ := onI_rd hf ru
  exact ⟨_, call_max2 hc, i, j, rfl, hP _ _ _ _ hf (rd_int.mpr rfl) rs .refl⟩
theorem c_abs : CallR X (.builtin "abs") (liftCall X .abs) := callr_cases fun pins s σ H xs us Q I rx ⟨ds, S, P, rds, rs, hf, hP⟩ => by
  obtain ⟨x, v, rfl, rfl, rv, hf⟩ := one_rd hf rds
  obtain ⟨i, rfl, rfl, hf⟩ := onI_rd hf rv
  exact ⟨_, call_abs, i, rfl, hP _ _ _ _ hf (rd_int.mpr rfl) rs .refl⟩
theorem c_int : CallR X (.type "int") (liftCall X .int) := callr_cases fun pins s σ H xs us Q I rx ⟨ds, S, P, rds, rs, hf, hP⟩ => by
  obtain ⟨x, v, rfl, rfl, rv, hf⟩ := one_rd hf rds
  obtain ⟨i, rfl, rfl, hf⟩ := onI_rd hf rv
  exact ⟨_, call_int1, .inl ⟨i, rfl, hP _ _ _ _ hf (rd_int.mpr rfl) rs .refl⟩⟩
theorem c_str : CallR X (.type "str") (liftCall X .str) := callr_cases fun pins s σ H xs us Q I rx ⟨ds, S, P, rds, rs, hf, hP⟩ => by
  obtain ⟨x, v, rfl, rfl, rv, hf⟩ := one_rd hf rds
  obtain ⟨i, rfl, rfl, hf⟩ := onI_rd hf rv
  exact ⟨_, call_str_int, i, rfl, hf.1, hP _ _ _ _ hf.2 (rd_str.mpr rfl) rs .refl⟩
end
end TA
set_option Elab.async false
set_option linter.all false
set_option maxRecDepth 100000
/-! TA7b: len, tuple, list, isinstance, append, pop. -/
namespace TA
open PySem PySem.Spec L2
section
variable {X : Cx} {W : WX} {Γ : List DSp} {fs : List (Str × D)}
/-- what the dicts' file gives for built-ins that take a dict -/
def DctCall (X : Cx) (f : Value) (g : List (D × D) → Sto → DK → Prop) : Prop := CallR X f (liftRs X.w X.K fun ds S Q => ∃ a kvs gh, ds = [.ref a] ∧ S a = some (.dct kvs gh) ∧ g kvs S Q)
theorem c_len (hd : DctCall X (.builtin "len") fun kvs S Q => Q (.int kvs.length) S) : CallR X (.builtin "len") (liftCall X .len) := callr_cases fun pins s σ H xs us Q I rx ⟨ds, S, P, rds, rs, hf, hP⟩ => by
  obtain ⟨x, v, rfl, rfl, rv, hf⟩ := one_rd hf rds
  cases x with
  | str z =>
    rw [rd_str] at rv; subst rv
    exact ⟨_, call_len_str, z, rfl, hf.1, hP _ _ _ _ hf.2 (rd_int.mpr rfl) rs .refl⟩
  | tup ys =>
    obtain ⟨a, vs, rfl, h1, r1⟩ := rd_tup.mp rv
    exact ⟨_, call_len_seq, a, vs, rfl, .inr h1, hP _ _ _ _ hf (rd_int.mpr (by rw [r1.length])) rs .refl⟩
  | ref a =>
    simp only [lenD] at hf
    cases hS : S a with
    | none => simp only [hS] at hf
    | some o =>
      cases o with
      | lst ys =>
        simp only [hS] at hf
        rw [rd_ref] at rv; subst rv
        obtain ⟨vs, h1, r1⟩ := rs _ _ hS
        exact ⟨_, call_len_seq, a, vs, rfl, .inl (.of h1), hP _ _ _ _ hf (rd_int.mpr (by rw [r1.length])) rs .refl⟩
      | dct kvs gh =>
        simp only [hS] at hf
        exact ⟨_, hd, [.ref a], S, P, rds, rs, ⟨a, kvs, gh, rfl, hS, hf⟩, hP⟩
      | ins c f => simp only [hS] at hf
      | fzl f => simp only [hS] at hf
  | _ => exact hf.elim
theorem seqD_cases {S : Sto} {x : D} {xs : List D} (h : seqD S x = some xs) : (x = .tup xs) ∨ (∃ a, x = .ref a ∧ S a = some (.lst xs)) ∨ ∃ a kvs gh, x = .ref a ∧ S a = some (.dct kvs gh) ∧ xs = kvs.map (·.1) := by
  unfold seqD at h
  split at h
  · simp only [Option.some.injEq] at h; subst h; exact .inl rfl
  · split at h
    · rename_i e; simp only [Option.some.injEq] at h; subst h; exact .inr (.inl ⟨_, rfl, e⟩)
    · rename_i e; simp only [Option.some.injEq] at h; subst h; exact .inr (.inr ⟨_, _, _, rfl, e, rfl⟩)
    · cases h
  · cases h
theorem seqT_cases {S : Sto} {x : D} {xs : List D} (h : seqT S x = some xs) : (x = .tup xs) ∨ ∃ a, x = .ref a ∧ S a = some (.lst xs) := by
  unfold seqT at h
  split at h
  · simp only [Option.some.injEq] at h; subst h; exact .inl rfl
  · split at h
    · rename_i e; simp only [Option.some.injEq] at h; subst h; exact .inr ⟨_, rfl, e⟩
    · cases h
  · cases h
theorem c_tuple : CallR X (.type "tuple") (liftCall X .tuple) := callr_cases fun pins s σ H xs us Q I rx ⟨ds, S, P, rds, rs, hf, hP⟩ => by
  obtain ⟨x, v, rfl, rfl, rv, ys, e, hg⟩ := one_rd hf rds
  rcases seqT_cases e with rfl | ⟨a, rfl, e1⟩
  · obtain ⟨a, vs, rfl, h1, r1⟩ := rd_tup.mp rv
    exact ⟨_, call_tuple_of, a, vs, rfl, .inr ⟨h1, hP _ _ _ _ hg rv rs .refl⟩⟩
  · rw [rd_ref] at rv; subst rv
    obtain ⟨vs, h1, r1⟩ := rs _ _ e1
    exact ⟨_, call_tuple_of, a, vs, rfl, .inl ⟨.of h1, fun q hq => hP _ _ _ _ hg (rd_tup.mpr ⟨q, vs, rfl, .of upd_same, r1.keep (tups_new hq)⟩) (rs.new hq) (ext_new hq)⟩⟩
theorem c_list (hd : DctCall X (.type "list") fun kvs S Q => fresh S (.lst (kvs.map (·.1))) Q) : CallR X (.type "list") (liftCall X .list) := callr_cases fun pins s σ H xs us Q I rx ⟨ds, S, P, rds, rs, hf, hP⟩ => by
  obtain ⟨x, v, rfl, rfl, rv, ys, e, hg⟩ := one_rd hf rds
  rcases seqD_cases e with rfl | ⟨a, rfl, e1⟩ | ⟨a, kvs, gh, rfl, e1, rfl⟩
  · obtain ⟨a, vs, rfl, h1, r1⟩ := rd_tup.mp rv
    exact ⟨_, call_list_of, a, vs, rfl, .inr h1, fun q hq => hP _ _ _ _ (hg q (rs.free hq)) (rd_ref.mpr rfl) (rs.lay hq ⟨_, upd_same, r1.keep (tups_new hq)⟩) (ext_lay hq)⟩
  · rw [rd_ref] at rv; subst rv
    obtain ⟨vs, h1, r1⟩ := rs _ _ e1
    exact ⟨_, call_list_of, a, vs, rfl, .inl (.of h1), fun q hq => hP _ _ _ _ (hg q (rs.free hq)) (rd_ref.mpr rfl) (rs.lay hq ⟨_, upd_same, r1.keep (tups_new hq)⟩) (ext_lay hq)⟩
  · exact ⟨_, hd, [.ref a], S, P, rds, rs, ⟨a, kvs, gh, rfl, e1, hg⟩, hP⟩
/-! ### isinstance -/
def Ty.nm : Ty → String
  | .int => "int" | .bool => "bool" | .str => "str" | .tuple => "tuple" | .list => "list" | .dict => "dict"
def Ty.st : Ty → Str
  | .int => "int" | .bool => "bool" | .str => "str" | .tuple => "tuple" | .list => "list" | .dict => "dict"
def kitT (a : String) (t : Ty) : Option Bool := kitB a t.nm
theorem tyB_ok {w : World} {K : PySem.W.Frag} {H : Hp} {S : Sto} {x : D} {v : V} {t : Ty} {k : Bool} (rs : RS w K H S) (r : RD K H x v) (h : tyB S x t = some k) : ∃ T : String, TyX K H v (.type T) ∧ kitB T t.nm = some k := by
  cases x with
  | non => rw [rd_non] at r; subst r; simp only [tyB, Option.some.injEq] at h; subst h; exact ⟨_, .base .non, by cases t <;> decide +kernel⟩
  | bl b => rw [rd_bl] at r; subst r; simp only [tyB, Option.some.injEq] at h; subst h; exact ⟨_, .base (.bl b), by cases t <;> decide +kernel⟩
  | int b => rw [rd_int] at r; subst r; simp only [tyB, Option.some.injEq] at h; subst h; exact ⟨_, .base (.int b), by cases t <;> decide +kernel⟩
  | str b => rw [rd_str] at r; subst r; simp only [tyB, Option.some.injEq] at h; subst h; exact ⟨_, .base (.str b), by cases t <;> decide +kernel⟩
  | tup xs =>
    obtain ⟨a, vs, rfl, h1, r1⟩ := rd_tup.mp r
    simp only [tyB, Option.some.injEq] at h; subst h
    refine ⟨"tuple", ?_, by cases t <;> decide +kernel⟩
    rcases h1 with (h1 | ⟨o, h1⟩) | ⟨o, its, n, lk, hc, _⟩
    · exact .base (.tup h1)
    · exact .fTuple h1
    · exact .kTuple lk hc
  | ref a =>
    rw [rd_ref] at r; subst r
    simp only [tyB] at h
    cases hS : S a with
    | none => simp [hS] at h
    | some o =>
      cases o with
      | lst xs =>
        simp only [hS, Option.some.injEq] at h; subst h
        obtain ⟨vs, h1, r1⟩ := rs _ _ hS
        exact ⟨"list", .base (.lst h1), by cases t <;> decide +kernel⟩
      | dct kvs gh =>
        simp [hS] at h
      | ins c f => simp [hS] at h
      | fzl f => simp [hS] at h
/-- isinstance(e, T) -/
theorem e_isi {e e2 : Expr} {a : IE} {t : Ty} {x : Str} {p pos : Pos} (ha : PE X e (liftE X.w X.K W (wpE Γ fs a))) (h2 : PE X e2 (tC (.ty t.nm))) (hg : Gl X x) (hm : X.mg x = none) (hv : bootBuiltins x = some (.builtin "isinstance"))
    (hn : x ≠ "__name__") (hdb : (x == ("__debug__" : Str)) = false) (he : starEach (e :: [e2]) X.env = (false, eval e X.env) :: starEach [e2] X.env) (he2 : starEach [e2] X.env = (false, eval e2 X.env) :: starEach [] X.env)
    (hpl : (backTo pos (starEach [e2] X.env)).any (·.1) = false) : PE X (.Call (.Name x p) [e, e2] [] pos) (liftE X.w X.K W (wpE Γ fs (.isi a t))) :=
  peW (pe_callB call_isi hg hm hv (pa_cons ha (pa_cons h2 pa_nil he2) he) hn hdb he hpl) fun σ H Q ⟨σd, S, E, P, rv, rs, wr, hw, hP⟩ =>
    ⟨σd, S, E, _, rv, rs, wr, hw, fun d S1 v H1 h1 rd rs1 e1 => by
      split at h1
      · rename_i k hk
        obtain ⟨T, ty, kb⟩ := tyB_ok rs1 rd hk
        exact ⟨v, .ty t.nm, .type T, .type t.nm, k, rfl, .ty _, ty, kit_ty kb, hP _ _ _ _ h1 (rd_bl.mpr rfl) rs1 e1⟩
      · exact h1.elim⟩
/-! ### methods -/
theorem mtr_cases {id : String} {r : V → List V → Hp → VK → Prop} (h : ∀ pins s σ H x xs v us Q, L2.Inv X pins σ H s → RelV x v → Vals xs us → r x xs H Q → ∃ r', MtR X id r' ∧ r' x xs H Q) : MtR X id r :=
  fun pins s σ H x xs v us Q I rx rxs q => by
    obtain ⟨r', o, q'⟩ := h pins s σ H x xs v us Q I rx rxs q
    exact o pins s σ H x xs v us Q I rx rxs q'
theorem addr_rd {K H} {x : D} {v : V} {f : Addr → Prop} (h : addr x f) (r : RD K H x v) : ∃ a, x = .ref a ∧ v = .ref a ∧ f a := by
  unfold addr at h
  split at h
  · rw [rd_ref] at r; exact ⟨_, rfl, r, h⟩
  · exact h.elim
theorem atL_rd {w K H} {S : Sto} {a : Addr} {f : List D → Prop} (h : atL S a f) (rs : RS w K H S) : ∃ xs vs, S a = some (.lst xs) ∧ H a = some (.lst vs) ∧ RDs K H xs vs ∧ f xs := by
  unfold atL at h
  split at h
  · rename_i xs e
    obtain ⟨vs, h1, r1⟩ := rs _ _ e
    exact ⟨xs, vs, e, h1, r1, h⟩
  · exact h.elim
theorem m_append : MtR X "list.append" (liftM X.w X.K (mtD .append)) := mtr_cases fun pins s σ H x xs v us Q I rx rxs ⟨a, ds, S, P, ra, rds, rs, hf, hP⟩ => by
  obtain ⟨b, rfl, rfl, hf⟩ := addr_rd hf ra
  obtain ⟨y, u, rfl, rfl, ru, hf⟩ := one_rd hf rds
  obtain ⟨ys, vs, e, h1, r1, hz, hf⟩ := atL_rd hf rs
  have nt : ∀ zs, HO.lst vs ≠ .tup zs := fun _ z => nomatch z
  have nf : ∀ o z, HO.lst vs ≠ .frz o z := fun _ _ z => nomatch z
  exact ⟨_, mt_append, b, vs, u, rfl, rfl, h1, by rw [← r1.length]; exact hz, hP _ _ _ _ hf (rd_non.mpr rfl) (rs.set h1 nt nf ⟨_, upd_same, (r1.append (.cons ru .nil)).keep (tups_set h1 nt nf)⟩) (ext_set e)⟩
theorem m_pop : MtR X "list.pop" (liftM X.w X.K (mtD .pop)) := mtr_cases fun pins s σ H x xs v us Q I rx rxs ⟨a, ds, S, P, ra, rds, rs, hf, hP⟩ => by
  obtain ⟨rfl, hf⟩ := hf
  obtain ⟨b, rfl, rfl, hf⟩ := addr_rd hf ra
  simp only [RDs] at rds; subst rds
  obtain ⟨zs, vs, e, h1, r1, ys, y, rfl, hf⟩ := atL_rd hf rs
  obtain ⟨us', u, rfl, r2, ru⟩ := r1.snoc
  have nt : ∀ zs, HO.lst (us' ++ [u]) ≠ .tup zs := fun _ z => nomatch z
  have nf : ∀ o z, HO.lst (us' ++ [u]) ≠ .frz o z := fun _ _ z => nomatch z
  refine ⟨_, mt_pop, b, us' ++ [u], u, rfl, rfl, h1, by simp, ?_⟩
  rw [List.dropLast_concat]
  have tt := tups_set (o := .lst us') h1 nt nf
  exact hP _ _ _ _ hf (ru.keep tt) (rs.set h1 nt nf ⟨_, upd_same, r2.keep tt⟩) (ext_set e)
/-- a value of a built-in type -/
def TyR (X : Cx) (T : String) (ty : V → Hp → Prop) : Prop := ∀ (pins : List (Addr × Obj)) (σ : L2.St) (H : Hp) (s : Shared) (x : V) (v : Value), L2.Inv X pins σ H s → RelV x v → ty x H → s.TypeIs v T ∧ ∀ a, v = .ref a → ∃ ob, s.heap.get? a = some ob ∧ ob.dict = none
theorem tyR_list : TyR X "list" (fun x H => ∃ a xs, x = .ref a ∧ H a = some (.lst xs)) := fun pins σ H s x v I r ⟨a, xs, e, h⟩ => by
  subst e
  exact tyV_is I r (.inl ⟨rfl, xs, .of h⟩)
theorem tyR_str : TyR X "str" (fun x H => ∃ z, x = .str z) := fun pins σ H s x v I r ⟨z, e⟩ => by
  subst e
  exact tyV_is I r rfl
def tBMA (ty : V → Hp → Prop) (r : V → List V → Hp → VK → Prop) (to : TE) (t : TA) : TE := fun σ H Q => to σ H fun x H1 => ty x H1 ∧ t σ H1 fun xs H2 => r x xs H2 Q
theorem pe_bmA {T id : String} {name : Str} {o e : Expr} {es : List Expr} {apos cpos : Pos} {ty : V → Hp → Prop} {r : V → List V → Hp → VK → Prop} {to : TE} {t : TA} (hT : TyR X T ty) (pa : PlainAttrs T) (slot : Slot T name id) (hty : typeOf (.builtin id) = pure (.type "method_descriptor")) (hm : MtR X id r) (ho : PE X o to) (ha : PA X (e :: es) t)
    (hbase : attributeBase o name X.env (eval o X.env) = eval o X.env)
    (hfew : ((backTo cpos (starEach (e :: es) X.env)).all (fun x => !x.1) && (backToKw cpos (keywordEach [] X.env)).all (fun x => x.1.isSome)
      && decide ((e :: es).length + ([] : List Keyword).length + (if ([] : List Keyword).isEmpty then 0 else 1) < 30)) = true)
    (hline : (apos.endLine == cpos.line) = true) (hs : starEach (e :: es) X.env = (false, eval e X.env) :: starEach es X.env) (hplain : (backTo cpos (starEach es X.env)).any (·.1) = false) :
    PE X (.Call (.Attribute o name apos) (e :: es) [] cpos) (tBMA ty r to t) := by
  refine ⟨fun pins s σ H Q I h => ?_⟩
  refine wpAny_Call_method_late hbase hfew hline rfl (thn (ho.run pins s σ H _ I h) fun v s1 ⟨x, H1, I1, r1, ty, q1⟩ => ?_)
  obtain ⟨h1, h2⟩ := hT pins σ H1 s1 x v I1 r1 ty
  refine ⟨T, id, pa, slot, hty, h1, h2, ?_⟩
  have hA := ha.run cpos pins s1 σ H1 _ I1 q1
  rw [hs] at hA ⊢
  refine Calls.callWith_builtin (by show (false || (backTo cpos (starEach es X.env)).any (·.1)) = false; rw [hplain] <;> rfl) (Calls.evalArgs_plain ?_)
  exact thn hA fun us s2 ⟨vs, H2, I2, r2, q2⟩ => hm pins s2 σ H2 x vs v us Q I2 r1 r2 q2
theorem pe_bm0A {T id : String} {name : Str} {o : Expr} {apos cpos : Pos} {ty : V → Hp → Prop} {r : V → List V → Hp → VK → Prop} {to : TE} (hT : TyR X T ty) (pa : PlainAttrs T) (slot : Slot T name id) (hty : typeOf (.builtin id) = pure (.type "method_descriptor")) (hm : MtR X id r) (ho : PE X o to)
    (hbase : attributeBase o name X.env (eval o X.env) = eval o X.env) (hline : (apos.endLine == cpos.line) = true) :
    PE X (.Call (.Attribute o name apos) [] [] cpos) (fun σ H Q => to σ H fun x H1 => ty x H1 ∧ r x [] H1 Q) := by
  refine ⟨fun pins s σ H Q I h => ?_⟩
  refine wpAny_Call_method0_late hbase hline (thn (ho.run pins s σ H _ I h) fun v s1 ⟨x, H1, I1, r1, ty, q1⟩ => ?_)
  obtain ⟨h1, h2⟩ := hT pins σ H1 s1 x v I1 r1 ty
  exact ⟨T, id, pa, slot, hty, h1, h2, Calls.callWith_builtin rfl (PySem.evalArgs_none (hm pins s1 σ H1 x [] v [] Q I1 r1 .nil q1))⟩
/-- o.m(e, ..), a method of a built-in type -/
theorem e_mt {m : Me} {T id : String} {name : Str} {o e : Expr} {es : List Expr} {a : IE} {as : IEs} {apos cpos : Pos} {ty : V → Hp → Prop} (hT : TyR X T ty) (pa : PlainAttrs T) (slot : Slot T name id) (hty : typeOf (.builtin id) = pure (.type "method_descriptor")) (hm : MtR X id (liftM X.w X.K (mtD m)))
    (hr : ∀ {H S d v}, RS X.w X.K H S → RD X.K H d v → recvD m d S → ty v H) (ho : PE X o (liftE X.w X.K W (wpE Γ fs a))) (ha : PA X (e :: es) (liftEs X.w X.K W (es.length + 1) (wpEs Γ fs as)))
    (hbase : attributeBase o name X.env (eval o X.env) = eval o X.env)
    (hfew : ((backTo cpos (starEach (e :: es) X.env)).all (fun x => !x.1) && (backToKw cpos (keywordEach [] X.env)).all (fun x => x.1.isSome)
      && decide ((e :: es).length + ([] : List Keyword).length + (if ([] : List Keyword).isEmpty then 0 else 1) < 30)) = true)
    (hline : (apos.endLine == cpos.line) = true) (hs : starEach (e :: es) X.env = (false, eval e X.env) :: starEach es X.env) (hplain : (backTo cpos (starEach es X.env)).any (·.1) = false) :
    PE X (.Call (.Attribute o name apos) (e :: es) [] cpos) (liftE X.w X.K W (wpE Γ fs (.mt m a as))) :=
  peW (pe_bmA hT pa slot hty hm ho ha hbase hfew hline hs hplain) fun σ H Q ⟨σd, S, E, P, rv, rs, wr, hw, hP⟩ =>
    ⟨σd, S, E, _, rv, rs, wr, hw, fun d S1 v H1 h1 rd rs1 e1 => ⟨hr rs1 rd h1.1, σd, S1, E, _, rv.keep (e1.tups rs), rs1, wr.keep e1, h1.2, fun ds S2 vs H2 h2 _ rds rs2 e2 =>
      ⟨d, ds, S2, P, rd.keep (e2.tups rs1), rds, rs2, h2, fun d3 S3 v3 H3 h3 rd3 rs3 e3 => hP _ _ _ _ h3 rd3 rs3 ((e1.trans e2).trans e3)⟩⟩⟩
theorem e_mt0 {m : Me} {T id : String} {name : Str} {o : Expr} {a : IE} {apos cpos : Pos} {ty : V → Hp → Prop} (hT : TyR X T ty) (pa : PlainAttrs T) (slot : Slot T name id) (hty : typeOf (.builtin id) = pure (.type "method_descriptor")) (hm : MtR X id (liftM X.w X.K (mtD m)))
    (hr : ∀ {H S d v}, RS X.w X.K H S → RD X.K H d v → recvD m d S → ty v H) (ho : PE X o (liftE X.w X.K W (wpE Γ fs a)))
    (hbase : attributeBase o name X.env (eval o X.env) = eval o X.env) (hline : (apos.endLine == cpos.line) = true) :
    PE X (.Call (.Attribute o name apos) [] [] cpos) (liftE X.w X.K W (wpE Γ fs (.mt m a .nil))) :=
  peW (pe_bm0A hT pa slot hty hm ho hbase hline) fun σ H Q ⟨σd, S, E, P, rv, rs, wr, hw, hP⟩ =>
    ⟨σd, S, E, _, rv, rs, wr, hw, fun d S1 v H1 h1 rd rs1 e1 => ⟨hr rs1 rd h1.1, d, [], S1, P, rd, .nil, rs1, h1.2, fun d3 S3 v3 H3 h3 rd3 rs3 e3 => hP _ _ _ _ h3 rd3 rs3 (e1.trans e3)⟩⟩
theorem recv_list {m : Me} (hm : m = .append ∨ m = .pop) {w : World} {K : PySem.W.Frag} {H : Hp} {S : Sto} {d : D} {v : V} (rs : RS w K H S) (r : RD K H d v) (h : recvD m d S) : ∃ a xs, v = .ref a ∧ H a = some (.lst xs) := by
  have h' : refL S d fun _ => True := by rcases hm with rfl | rfl <;> exact h
  obtain ⟨a, xs, vs, rfl, rfl, _, h1, _, _⟩ := refL_rd h' rs r
  exact ⟨a, vs, rfl, h1⟩
end
end TA
set_option Elab.async false
set_option linter.all false
set_option maxRecDepth 100000
/-! TA8a: enumerate and zip of lists and tuples in any mix. -/
namespace PySem
open PyProof.Rows
set_option maxHeartbeats 1000000 in
theorem ta_enumerate_new1 {v : Value} {o : Obj} {H : Heap → Prop} (B : Begins v o H) :
    Meets (Builtin.«enumerate.__new__» ⟨[.type "enumerate", v], []⟩) (fun _ R s => H s.heap ∧
      R (.ok (.ret (.ref (s.heap.push o).objs.size))) { s with heap := (s.heap.push o).push { cls := .type "enumerate", data := .fields #[.none, .bool false, .ref s.heap.objs.size, rawInt 0, .none, .none] } }) :=
  .of_wp fun prog w A R s h => by
    obtain ⟨hp, g, d, tk, os⟩ := s; obtain ⟨h1, h⟩ := h
    have hsub := sub_enumerate
    have q1 : ∀ {A' : Around} {E : Value → Shared → Prop} {Q : Value → Shared → Prop}, Q (.ref hp.objs.size) ⟨hp.push o, g, d, tk, os⟩ → wpAny (model prog w) A' (pyIter v) Q E ⟨hp, g, d, tk, os⟩ :=
      fun q => B.iter prog w _ _ ⟨hp, g, d, tk, os⟩ _ h1 q
    wp_walk using q1
    refine wpAny_stack_any fun st => wpAny_pure ?_
    split
    · rename_i c _ _ _ _ _
      cases (c == Value.type "enumerate")
      · wp_walk using q1
        exact ⟨_, rfl, h⟩
      · wp_walk using q1
        exact ⟨_, rfl, h⟩
    · wp_walk using q1
      exact ⟨_, rfl, h⟩
theorem ta_call_enumerate {prog : Program} {w : World} {A : Around} {E : Value → Shared → Prop} {s : Shared} {v : Value} {o : Obj} {H : Heap → Prop} {Q : Value → Shared → Prop} (B : Begins v o H) (h1 : H s.heap)
    (h : ∀ h', IsEnum h' (s.heap.objs.size + 1) s.heap.objs.size 0 .none → h'.get? s.heap.objs.size = some o → h'.objs.size = s.heap.objs.size + 2 →
      (∀ b o, s.heap.get? b = some o → h'.get? b = some o) → Q (.ref (s.heap.objs.size + 1)) { s with heap := h' }) :
    wpAny (model prog w) A (call (.type "enumerate") [v]) Q E s := by
  refine callType_new F.called_enumerate (by decide) (F.typeCall_enumerate_1 _) (F.newCall_enumerate_1 _) (fun obj => F.args_object_init_2 obj _) F.entry_enumerate_new
    (ta_enumerate_new1 B) ⟨h1, ?_⟩
  have hz : (s.heap.push o).objs.size = s.heap.objs.size + 1 := Heap.size_push ..
  show _ ∧ _
  rw [hz]
  have he : IsEnum ((s.heap.push o).push { cls := .type "enumerate", data := .fields #[.none, .bool false, .ref s.heap.objs.size, rawInt 0, .none, .none] }) (s.heap.objs.size + 1) s.heap.objs.size 0 .none := by
    have := Heap.get?_push_size (s.heap.push o) (o := { cls := .type "enumerate", data := .fields #[.none, .bool false, .ref s.heap.objs.size, rawInt 0, .none, .none] }) rfl
    rw [hz] at this; exact this
  refine ⟨⟨_, he, rfl⟩, h _ he (Heap.get?_push_of_some _ (Heap.get?_push_size _ B.free)) (by rw [Heap.size_push, hz]) fun b o x => Heap.get?_push_of_some _ (Heap.get?_push_of_some _ x)⟩
end PySem
namespace TA
open PySem PySem.Spec L2
/-! ### lists and tuples alike -/
def SqX (k : Bool) (K : PySem.W.Frag) (H : Hp) (a : Addr) (xs : List V) : Prop := if k = true then SqL K H a xs else SqT K H a xs
def HpX (k : Bool) (h : Heap) (a : Addr) (its : Array Value) : Prop := if k = true then h.IsList a its else h.IsTuple a its
def ItX (k : Bool) (h : Heap) (it a : Addr) (i : Nat) : Prop := if k = true then h.IsListIter it a i else h.IsTupleIter it a i
def nmX (k : Bool) : String := if k = true then "list" else "tuple"
def iobX (k : Bool) (a : Addr) : Obj := if k = true then { cls := .type "list_iterator", data := .fields #[.ref a, .int 0 0] } else { cls := .type "tuple_iterator", data := .fields #[.ref a, .int 0 0] }
theorem inv_sqX {X : Cx} {pins : List (Addr × Obj)} {σ : L2.St} {H : Hp} {s : Shared} (I : L2.Inv X pins σ H s) {k : Bool} {a : Addr} {xs : List V} (h : SqX k X.K H a xs) : ∃ its : List Value, Vals xs its ∧ HpX k s.heap a its.toArray ∧ xs.length ≤ sizeLine := by
  cases k with
  | true => obtain ⟨its, r, p, z⟩ := I.list (show SqL X.K H a xs from h); exact ⟨its, r, p.isList, z⟩
  | false => obtain ⟨its, r, p, z⟩ := I.tuple (show SqT X.K H a xs from h); exact ⟨its, r, (show s.heap.IsTuple a its.toArray from p), z⟩
theorem inv_sqX_inj {X : Cx} {pins : List (Addr × Obj)} {σ : L2.St} {H : Hp} {s : Shared} (I : L2.Inv X pins σ H s) {k : Bool} {a : Addr} {xs ys : List V} (h : SqX k X.K H a xs) (h' : SqX k X.K H a ys) : xs = ys := by
  cases k with
  | true => exact I.list_inj h h'
  | false => exact I.tuple_inj h h'
theorem HpX.ne {k : Bool} {h : Heap} {a b : Addr} {its : Array Value} {o : Obj} {n : String} (p : HpX k h a its) (e : h.get? b = some o) (hc : o.cls = .type n) (hn : n ≠ "list" ∧ n ≠ "tuple") : b ≠ a := by
  intro z; subst z
  cases k with
  | true =>
    obtain ⟨o', e', c', _⟩ := (show h.IsList _ its from p)
    rw [e] at e'; cases e'; rw [hc] at c'; injection c' with c'; exact hn.1 c'
  | false =>
    obtain ⟨o', e', c', _⟩ := (show h.IsTuple _ its from p)
    rw [e] at e'; cases e'; rw [hc] at c'; injection c' with c'; exact hn.2 c'
theorem ItX.obj {k : Bool} {h : Heap} {it a : Addr} {i : Nat} (x : ItX k h it a i) : ∃ o vs, h.get? it = some o ∧ o.data = .fields vs ∧ (o.cls = .type "list_iterator" ∨ o.cls = .type "tuple_iterator") := by
  cases k with
  | true => obtain ⟨o, e, c, d⟩ := (show h.IsListIter it a i from x); exact ⟨o, _, e, d, .inl c⟩
  | false => obtain ⟨o, e, c, d⟩ := (show h.IsTupleIter it a i from x); exact ⟨o, _, e, d, .inr c⟩
theorem ItX.at {k : Bool} {h h' : Heap} {it a : Addr} {i : Nat} (x : ItX k h it a i) (hk : ∀ o, h.get? it = some o → h'.get? it = some o) : ItX k h' it a i := by
  cases k with
  | true => exact (show h.IsListIter it a i from x).at hk
  | false => exact (show h.IsTupleIter it a i from x).at hk
theorem drawsX {k : Bool} {prog : Program} {w : World} {A : Around} (hh : A.handled = none) (it a : Addr) (hne : a ≠ it) (its : Array Value) : Draws prog w A it [it, a] its.size (fun i v => its[i]? = some v) (fun i h => ItX k h it a i ∧ HpX k h a its) := by
  cases k with
  | true => exact Draws.list hh it a hne its
  | false => exact Draws.tuple hh it a hne its
theorem beginsX (k : Bool) (a : Addr) (its : Array Value) : Begins (.ref a) (iobX k a) fun h => HpX k h a its := by
  cases k with
  | true => exact begins_list a its
  | false => exact begins_tuple a its
theorem itX_zero {k : Bool} {h : Heap} {it a : Addr} (e : h.get? it = some (iobX k a)) : ItX k h it a 0 := by
  cases k with
  | true => exact ⟨_, e, rfl, rfl⟩
  | false => exact ⟨_, e, rfl, rfl⟩
/-! ### enumerate -/
def ItEn (k : Bool) (K : PySem.W.Frag) (a : Addr) : It :=
  ⟨fun i H => ∃ (xs : List V) (x : V), SqX k K H a xs ∧ xs[i]? = some x, fun i H v H' => ∃ T x, v = .ref T ∧ H T = none ∧ H' = upd H T (.tup [.int (i : Nat), x]) ∧ ∀ xs, SqX k K H a xs → xs[i]? = some x, fun i H => ∃ xs : List V, SqX k K H a xs ∧ xs.length = i⟩
theorem turn_en {P : Program} {w : World} {K : PySem.W.Frag} {elts : List Expr} {kk : Nat} {tpos : Pos} (k : Bool) (a e it : Addr) :
    Turn P w K (.Tuple elts kk tpos) (ItEn k K a) [e, it] e (fun i h => (∃ old, IsEnum h e it ((i : Nat) : Int) old) ∧ ItX k h it a i ∧ e ≠ it) where
  mem := by simp
  obj := fun i h st b hb => by
    obtain ⟨⟨old, he⟩, hi, _⟩ := st
    have e' : b = e ∨ b = it := by simpa using hb
    rcases e' with z | z
    · rw [z]; exact ⟨_, he, fun v q => nomatch q⟩
    · obtain ⟨o, vs, ho, hd, _⟩ := hi.obj
      rw [z]; exact ⟨o, ho, fun v q => by rw [hd] at q; cases q⟩
  keep := fun i h h' st k => let ⟨⟨old, he⟩, hi, hne⟩ := st; ⟨⟨old, k e (by simp) _ he⟩, hi.at fun o q => k it (by simp) o q, hne⟩
  item := by
    intro X hP hw hK hc i pins s σ H E I hf st hg
    subst hP hw hK
    obtain ⟨⟨old, he⟩, hit, hne⟩ := st
    obtain ⟨xs, x, hq, hx⟩ := hg
    obtain ⟨its, rv, p, hz⟩ := inv_sqX I hq
    obtain ⟨u, hu, ru⟩ := rv.get hx
    have hel : e < s.heap.objs.size := Heap.lt_size he
    have hil : it < s.heap.objs.size := by obtain ⟨_, _, q, _⟩ := hit.obj; exact Heap.lt_size q
    have ea : e ≠ a := p.ne he rfl ⟨by decide, by decide⟩
    have ia : it ≠ a := by
      obtain ⟨o, vs, q, _, hcl⟩ := hit.obj
      rcases hcl with hcl | hcl
      · exact p.ne q hcl ⟨by decide, by decide⟩
      · exact p.ne q hcl ⟨by decide, by decide⟩
    have D := drawsX (k := k) (prog := X.prog) (w := X.w) (A := X.A.in1) (I.ok.hd hc) it a (Ne.symm ia) its.toArray
    have G := GoesN.enumFrom (elts := elts) (x1 := kk) (pos := tpos) 0 D e hne (by simp [hne, ea]) (by simp)
    have hin : i < its.toArray.size := by
      have := (List.getElem?_eq_some_iff.mp hu).1
      simpa using this
    refine G.goes i s _ E hin ⟨⟨old, by rw [Int.zero_add]; exact he⟩, hit, p⟩ fun v h' tk ⟨T, t, y, ev, hT, hy, hTt⟩ st' hk htk => ?_
    subst ev
    have ey : y = u := by
      have : its.toArray[i]? = some u := by simpa using hu
      rw [this] at hy; cases hy; rfl
    subst ey
    have e0 : (0 : Int) + ((i : Nat) : Int) = (i : Int) := Int.zero_add _
    rw [e0] at hTt
    have new : ObjOk X.prog X.w (upd H T (.tup [.int (i : Nat), x])) h' T (.tup [.int (i : Nat), x]) :=
      ⟨by show 2 ≤ sizeLine; decide, [.int i t, y], .cons ⟨_, rfl⟩ (.cons ru .nil), hTt⟩
    have I1 : L2.Inv X pins σ (upd H T (.tup [.int (i : Nat), x])) { s with heap := h', toks := tk } :=
      I.turnedNew (ch := [e, it]) (fun b ob hb q => hk b ob (fun z => hb (by simpa using z)) q) hf hT new
    obtain ⟨⟨old', he'⟩, hit', _⟩ := st'
    refine ⟨.ref T, _, I1, rfl, ⟨T, x, rfl, I.hok.fresh hT, rfl, fun ys hy => by rw [inv_sqX_inj I hy hq]; exact hx⟩, ⟨⟨old', ?_⟩, hit', hne⟩, fun b hb => ?_⟩
    · have e1 : (0 : Int) + ((i + 1 : Nat) : Int) = ((i + 1 : Nat) : Int) := Int.zero_add _
      rw [e1] at he'; exact he'
    · have hb' : b < s.heap.objs.size := by
        have e' : b = e ∨ b = it := by simpa using hb
        rcases e' with z | z
        · rw [z]; exact hel
        · rw [z]; exact hil
      rw [upd_ne (Nat.ne_of_lt (Nat.lt_of_lt_of_le hb' hT))]
      exact (hf b hb).1
  done := by
    intro X hP hw hK hc i pins s σ H E I hf st hg
    subst hP hw hK
    obtain ⟨⟨old, he⟩, hit, hne⟩ := st
    obtain ⟨xs, hq, hx⟩ := hg
    obtain ⟨its, rv, p, hz⟩ := inv_sqX I hq
    have ea : e ≠ a := p.ne he rfl ⟨by decide, by decide⟩
    have ia : it ≠ a := by
      obtain ⟨o, vs, q, _, hcl⟩ := hit.obj
      rcases hcl with hcl | hcl
      · exact p.ne q hcl ⟨by decide, by decide⟩
      · exact p.ne q hcl ⟨by decide, by decide⟩
    have D := drawsX (k := k) (prog := X.prog) (w := X.w) (A := X.A.in1) (I.ok.hd hc) it a (Ne.symm ia) its.toArray
    have G := GoesN.enumFrom (elts := elts) (x1 := kk) (pos := tpos) 0 D e hne (by simp [hne, ea]) (by simp)
    have hin : i = its.toArray.size := by
      have := rv.length
      simp; omega
    subst hin
    refine G.stops s _ E ⟨⟨old, by rw [Int.zero_add]; exact he⟩, hit, p⟩ fun h' tk hk htk => ?_
    exact I.turnedL (t' := tk) (ch := [e, it]) (fun b o hb q => hk b o (fun z => hb (by simpa using z)) q) hf
  self := fun A i s Q E st h => let ⟨⟨_, he⟩, _⟩ := st; wpAny_pyIter_enum he h
def iEn (K : PySem.W.Frag) (ta : TA) : TI := fun σ H R => ta σ H fun vs H1 => ∃ k a xs, vs = [.ref a] ∧ SqX k K H1 a xs ∧ (xs.length ≤ sizeLine → R (ItEn k K a) H1)
theorem pi_en {X : Cx} {e : Expr} {ta : TA} {x : Str} {p pos tpos : Pos} {elts : List Expr} {kk : Nat} (hg : Gl X x) (hm : X.mg x = none) (hv : bootBuiltins x = some (.type "enumerate")) (hn : x ≠ "__name__") (hdb : (x == ("__debug__" : Str)) = false) (ha : PA X [e] ta) (hs : starEach [e] X.env = [(false, eval e X.env)]) :
    PI X (.Tuple elts kk tpos) (.Call (.Name x p) [e] [] pos) (iEn X.K ta) := by
  refine ⟨fun pins s σ H R I h => ?_⟩
  refine wpAny_Call_Name_kw (ld_blt I hg hm hv (PyProof.Rows.callWith_type1 (thn (ha.run pos pins s σ H _ I h) fun us s1 ⟨vs, H1, I1, r1, q1⟩ => ?_) hs rfl) hn hdb)
  obtain ⟨k, a, xs, ex, hq, q⟩ := q1
  subst ex
  cases r1 with
  | cons r rr =>
    cases rr
    cases r
    obtain ⟨its, rv, p', hz⟩ := inv_sqX I1 hq
    refine ta_call_enumerate (beginsX k a its.toArray) p' fun h' he hit hsz hk => wpAny_pyIter_enum he ?_
    have I2 : L2.Inv X pins σ H1 { s1 with heap := h' } := I1.kept (t' := s1.toks) hk
    refine ⟨s1.heap.objs.size + 1, [s1.heap.objs.size + 1, s1.heap.objs.size], _, _, H1, rfl, I2, turn_en k a (s1.heap.objs.size + 1) s1.heap.objs.size, ⟨⟨.none, he⟩, itX_zero hit, Nat.succ_ne_self _⟩, fun b hb => ?_, q hz⟩
    have e' : b = s1.heap.objs.size + 1 ∨ b = s1.heap.objs.size := by simpa using hb
    have hle : s1.heap.objs.size ≤ b := by
      rcases e' with z | z
      · rw [z]; exact Nat.le_add_right _ _
      · rw [z]; exact Nat.le_refl _
    exact I1.fpOk hle (I1.hok.fresh hle)
end TA
set_option Elab.async false
set_option linter.all false
set_option maxRecDepth 100000
/-! TA8b: zip of lists and tuples in any mix; walks of values; ranges. -/
namespace TA
open PySem PySem.Spec L2
theorem fp_ne {X : Cx} {pins : List (Addr × Obj)} {σ : L2.St} {H : Hp} {s : Shared} (I : L2.Inv X pins σ H s) {k : Bool} {a c : Addr} {xs : List V} (h : SqX k X.K H a xs) (f : FpOk X pins H c) : c ≠ a := by
  intro z; subst z
  obtain ⟨f0, f1, f2, f3, f4, f5⟩ := f
  have kk : ∀ o, X.K.lookup c = some o → False := fun o lk => by
    have hb : X.base.get? c = some o := I.ok.mod.kin _ _ lk
    rcases f3 with f3 | f3
    · exact I.ok.noex c o hb f3
    · exact absurd (Nat.lt_of_lt_of_le (Heap.lt_size ((I.ok.bs c o hb).1)) f3) (Nat.lt_irrefl _)
  have rr : ∀ u, Rd H c u → False := fun u q => by
    rcases q with q | ⟨o, q⟩ <;> rw [f0] at q <;> cases q
  cases k with
  | true =>
    rcases (show SqL X.K H c xs from h) with q | ⟨o, its, n, lk, _⟩
    · exact rr _ q
    · exact kk o lk
  | false =>
    rcases (show SqT X.K H c xs from h) with q | ⟨o, its, n, lk, _⟩
    · exact rr _ q
    · exact kk o lk
theorem zip_mem {z TI TO i1 i2 c : Addr} (h : c ∈ [z, TO, i1, i2]) : c ∈ [z, TI, TO, i1, i2] := by
  simp only [List.mem_cons, List.not_mem_nil, or_false] at h ⊢
  rcases h with q | q | q | q
  · exact .inl q
  · exact .inr (.inr (.inl q))
  · exact .inr (.inr (.inr (.inl q)))
  · exact .inr (.inr (.inr (.inr q)))
def ItZi (k l : Bool) (K : PySem.W.Frag) (a b : Addr) : It :=
  ⟨fun i H => ∃ (xs ys : List V) (x y : V), SqX k K H a xs ∧ SqX l K H b ys ∧ xs[i]? = some x ∧ ys[i]? = some y,
    fun i H v H' => ∃ T x y, v = .ref T ∧ H T = none ∧ H' = upd H T (.tup [x, y]) ∧ (∀ xs, SqX k K H a xs → xs[i]? = some x) ∧ ∀ ys, SqX l K H b ys → ys[i]? = some y,
    fun i H => ∃ xs ys : List V, SqX k K H a xs ∧ SqX l K H b ys ∧ i = min xs.length ys.length⟩
structure Zap (z TI TO i1 i2 : Addr) : Prop where
  TIz : TI ≠ z
  TOz : TO ≠ z
  TITO : TI ≠ TO
  TIi1 : TI ≠ i1
  TIi2 : TI ≠ i2
  zi1 : z ≠ i1
  zi2 : z ≠ i2
  Ti1 : TO ≠ i1
  Ti2 : TO ≠ i2
  ii : i1 ≠ i2
theorem Zap.sep {z TI TO i1 i2 a b : Addr} (D : Zap z TI TO i1 i2) (za : z ≠ a) (Ta : TO ≠ a) (zb : z ≠ b) (Tb : TO ≠ b) (i1b : i1 ≠ b) (i2a : i2 ≠ a) : ZipSep2 z TI TO i1 i2 [i1, a] [i2, b] where
  TIz := D.TIz
  TOz := D.TOz
  TITO := D.TITO
  TIi1 := D.TIi1
  mem1 := by simp
  zf1 := by simp [D.zi1, za]
  Tf1 := by simp [D.Ti1, Ta]
  TIi2 := D.TIi2
  mem2 := by simp
  zf2 := by simp [D.zi2, zb]
  Tf2 := by simp [D.Ti2, Tb]
  sep1_2 := by simp [D.ii, i1b]
  sep2_1 := by simp [Ne.symm D.ii, i2a]
theorem turn_zi {P : Program} {w : World} {K : PySem.W.Frag} {elts : List Expr} {kk : Nat} {tpos : Pos} (k l : Bool) {a b z TI TO i1 i2 : Addr} (D : Zap z TI TO i1 i2) :
    Turn P w K (.Tuple elts kk tpos) (ItZi k l K a b) [z, TI, TO, i1, i2] z (fun i h => IsZip h z TI TO .none ∧ IsTupOf2 h TI (.ref i1) (.ref i2) ∧ (∃ x y, IsTupOf2 h TO x y) ∧ ItX k h i1 a i ∧ ItX l h i2 b i) where
  mem := by simp
  obj := fun i h st c hc => by
    obtain ⟨hz, hTI, ⟨x, y, hTO⟩, h1, h2⟩ := st
    obtain ⟨o1, v1, e1, d1, _⟩ := h1.obj
    obtain ⟨o2, v2, e2, d2, _⟩ := h2.obj
    have e' : c = z ∨ c = TI ∨ c = TO ∨ c = i1 ∨ c = i2 := by simpa using hc
    rcases e' with q | q | q | q | q
    · rw [q]; exact ⟨_, hz, fun v q => nomatch q⟩
    · rw [q]; exact ⟨_, hTI, fun v q => nomatch q⟩
    · rw [q]; exact ⟨_, hTO, fun v q => nomatch q⟩
    · rw [q]; exact ⟨o1, e1, fun v q => by rw [d1] at q; cases q⟩
    · rw [q]; exact ⟨o2, e2, fun v q => by rw [d2] at q; cases q⟩
  keep := fun i h h' st k => by
    obtain ⟨hz, hTI, ⟨x, y, hTO⟩, h1, h2⟩ := st
    exact ⟨k z (by simp) _ hz, k TI (by simp) _ hTI, ⟨x, y, k TO (by simp) _ hTO⟩, h1.at fun o q => k i1 (by simp) o q, h2.at fun o q => k i2 (by simp) o q⟩
  item := by
    intro X hP hw hK hc i pins s σ H E I hf st hg
    subst hP hw hK
    obtain ⟨hz, hTI, hTO, h1, h2⟩ := st
    obtain ⟨xs, ys, x, y, hqx, hqy, hx, hy⟩ := hg
    obtain ⟨its, rv, p, _⟩ := inv_sqX I hqx
    obtain ⟨its2, rv2, p2, _⟩ := inv_sqX I hqy
    obtain ⟨u, hu, ru⟩ := rv.get hx
    obtain ⟨u2, hu2, ru2⟩ := rv2.get hy
    have S := D.sep (fp_ne I hqx (hf z (by simp))) (fp_ne I hqx (hf TO (by simp))) (fp_ne I hqy (hf z (by simp))) (fp_ne I hqy (hf TO (by simp))) (fp_ne I hqy (hf i1 (by simp))) (fp_ne I hqx (hf i2 (by simp)))
    have D1 := drawsX (k := k) (prog := X.prog) (w := X.w) (A := X.A.in1) (I.ok.hd hc) i1 a (Ne.symm (fp_ne I hqx (hf i1 (by simp)))) its.toArray
    have D2 := drawsX (k := l) (prog := X.prog) (w := X.w) (A := X.A.in1) (I.ok.hd hc) i2 b (Ne.symm (fp_ne I hqy (hf i2 (by simp)))) its2.toArray
    have G := GoesN.zip2 (elts := elts) (x1 := kk) (pos := tpos) S D1 D2
    have l1 := (List.getElem?_eq_some_iff.mp hu).1
    have l2 := (List.getElem?_eq_some_iff.mp hu2).1
    refine G.goes i s _ E (by simp; omega) ⟨hz, hTI, hTO, ⟨h1, p⟩, ⟨h2, p2⟩⟩ fun v h' tk ⟨T, x', y', ev, hT, hx', hy', hTt⟩ st' hk htk => ?_
    subst ev
    have ex : x' = u := by
      have : its.toArray[i]? = some u := by simpa using hu
      rw [this] at hx'; cases hx'; rfl
    have ey : y' = u2 := by
      have : its2.toArray[i]? = some u2 := by simpa using hu2
      rw [this] at hy'; cases hy'; rfl
    subst ex ey
    have new : ObjOk X.prog X.w (upd H T (.tup [x, y])) h' T (.tup [x, y]) := ⟨by show 2 ≤ sizeLine; decide, [x', y'], .cons ru (.cons ru2 .nil), hTt⟩
    have I1 : L2.Inv X pins σ (upd H T (.tup [x, y])) { s with heap := h', toks := tk } :=
      I.turnedNew (t' := tk) (ch := [z, TI, TO, i1, i2]) (fun c o hb q => hk c o (fun q' => hb (zip_mem q')) q) hf hT new
    obtain ⟨z', TI', TO', ⟨h1', _⟩, ⟨h2', _⟩⟩ := st'
    refine ⟨.ref T, _, I1, rfl, ⟨T, x, y, rfl, I.hok.fresh hT, rfl, fun l hl => by rw [inv_sqX_inj I hl hqx]; exact hx, fun l hl => by rw [inv_sqX_inj I hl hqy]; exact hy⟩, ⟨z', TI', TO', h1', h2'⟩, fun c hcm => ?_⟩
    have hlt : c < s.heap.objs.size := by
      obtain ⟨_, _, e1, _⟩ := h1.obj
      obtain ⟨_, _, e2, _⟩ := h2.obj
      obtain ⟨_, _, e3⟩ := hTO
      have e' : c = z ∨ c = TI ∨ c = TO ∨ c = i1 ∨ c = i2 := by simpa using hcm
      rcases e' with q | q | q | q | q
      · rw [q]; exact Heap.lt_size hz
      · rw [q]; exact Heap.lt_size hTI
      · rw [q]; exact Heap.lt_size e3
      · rw [q]; exact Heap.lt_size e1
      · rw [q]; exact Heap.lt_size e2
    rw [upd_ne (Nat.ne_of_lt (Nat.lt_of_lt_of_le hlt hT))]
    exact (hf c hcm).1
  done := by
    intro X hP hw hK hc i pins s σ H E I hf st hg
    subst hP hw hK
    obtain ⟨hz, hTI, hTO, h1, h2⟩ := st
    obtain ⟨xs, ys, hqx, hqy, hend⟩ := hg
    obtain ⟨its, rv, p, _⟩ := inv_sqX I hqx
    obtain ⟨its2, rv2, p2, _⟩ := inv_sqX I hqy
    have l1 := rv.length
    have l2 := rv2.length
    have S := D.sep (fp_ne I hqx (hf z (by simp))) (fp_ne I hqx (hf TO (by simp))) (fp_ne I hqy (hf z (by simp))) (fp_ne I hqy (hf TO (by simp))) (fp_ne I hqy (hf i1 (by simp))) (fp_ne I hqx (hf i2 (by simp)))
    have D1 := drawsX (k := k) (prog := X.prog) (w := X.w) (A := X.A.in1) (I.ok.hd hc) i1 a (Ne.symm (fp_ne I hqx (hf i1 (by simp)))) its.toArray
    have D2 := drawsX (k := l) (prog := X.prog) (w := X.w) (A := X.A.in1) (I.ok.hd hc) i2 b (Ne.symm (fp_ne I hqy (hf i2 (by simp)))) its2.toArray
    have G := GoesN.zip2 (elts := elts) (x1 := kk) (pos := tpos) S D1 D2
    have hin : i = min its.toArray.size its2.toArray.size := by simp; omega
    subst hin
    refine G.stops s _ E ⟨hz, hTI, hTO, ⟨h1, p⟩, ⟨h2, p2⟩⟩ fun h' tk hk htk => ?_
    exact I.turnedL (t' := tk) (ch := [z, TI, TO, i1, i2]) (fun c o hb q => hk c o (fun q' => hb (zip_mem q')) q) hf
  self := fun A i s Q E st h => wpAny_pyIter_zip st.1 h
def iZi (K : PySem.W.Frag) (ta : TA) : TI := fun σ H R => ta σ H fun vs H1 => ∃ k l a b xs ys, vs = [.ref a, .ref b] ∧ SqX k K H1 a xs ∧ SqX l K H1 b ys ∧ (xs.length ≤ sizeLine → ys.length ≤ sizeLine → R (ItZi k l K a b) H1)
theorem zap_new (N : Nat) : Zap (N + 4) (N + 2) (N + 3) N (N + 1) where
  TIz := show (N + 2 : Nat) ≠ N + 4 by omega
  TOz := show (N + 3 : Nat) ≠ N + 4 by omega
  TITO := show (N + 2 : Nat) ≠ N + 3 by omega
  TIi1 := show (N + 2 : Nat) ≠ N by omega
  TIi2 := show (N + 2 : Nat) ≠ N + 1 by omega
  zi1 := show (N + 4 : Nat) ≠ N by omega
  zi2 := show (N + 4 : Nat) ≠ N + 1 by omega
  Ti1 := show (N + 3 : Nat) ≠ N by omega
  Ti2 := show (N + 3 : Nat) ≠ N + 1 by omega
  ii := show (N : Nat) ≠ N + 1 by omega
theorem pi_zi {X : Cx} {e e2 : Expr} {ta : TA} {x : Str} {p pos tpos : Pos} {elts : List Expr} {kk : Nat} (hg : Gl X x) (hm : X.mg x = none) (hv : bootBuiltins x = some (.type "zip")) (hn : x ≠ "__name__") (hdb : (x == ("__debug__" : Str)) = false) (ha : PA X [e, e2] ta)
    (hs : starEach [e, e2] X.env = (false, eval e X.env) :: starEach [e2] X.env) (hpl : (backTo pos (starEach [e2] X.env)).any (·.1) = false) :
    PI X (.Tuple elts kk tpos) (.Call (.Name x p) [e, e2] [] pos) (iZi X.K ta) := by
  refine ⟨fun pins s σ H R I h => ?_⟩
  refine wpAny_Call_Name_kw (ld_blt I hg hm hv (PyProof.Rows.callWith_type1 (thn (ha.run pos pins s σ H _ I h) fun us s1 ⟨vs, H1, I1, r1, q1⟩ => ?_) hs hpl) hn hdb)
  obtain ⟨k, l, a, b, xs, ys, ex, hqx, hqy, q⟩ := q1
  subst ex
  obtain ⟨u1, u2, rfl, r1, r2⟩ := Vals.two r1
  cases r1
  cases r2
  obtain ⟨its, rv, p1, z1⟩ := inv_sqX I1 hqx
  obtain ⟨its2, rv2, p2, z2⟩ := inv_sqX I1 hqy
  refine zip_begins2 (beginsX k a its.toArray) (beginsX l b its2.toArray) p1 p2 fun h' hz hTI hTO e1 e2 hsz hk => wpAny_pyIter_zip hz ?_
  have I2 : L2.Inv X pins σ H1 { s1 with heap := h' } := I1.kept (t' := s1.toks) hk
  refine ⟨s1.heap.objs.size + 4, [s1.heap.objs.size + 4, s1.heap.objs.size + 2, s1.heap.objs.size + 3, s1.heap.objs.size, s1.heap.objs.size + 1], _, _, H1, rfl, I2, turn_zi k l (zap_new _), ⟨hz, hTI, ⟨_, _, hTO⟩, itX_zero e1, itX_zero e2⟩, fun c hc => ?_, q z1 z2⟩
  have hle : s1.heap.objs.size ≤ c := by
    have e' : c = s1.heap.objs.size + 4 ∨ c = s1.heap.objs.size + 2 ∨ c = s1.heap.objs.size + 3 ∨ c = s1.heap.objs.size ∨ c = s1.heap.objs.size + 1 := by simpa using hc
    rcases e' with q | q | q | q | q
    · rw [q]; exact Nat.le_add_right _ _
    · rw [q]; exact Nat.le_add_right _ _
    · rw [q]; exact Nat.le_add_right _ _
    · rw [q]; exact Nat.le_refl _
    · rw [q]; exact Nat.le_add_right _ _
  exact I1.fpOk hle (I1.hok.fresh hle)
end TA
set_option Elab.async false
set_option linter.all false
set_option maxRecDepth 100000
/-! TA8c: what is walked, lifted. -/
namespace TA
open PySem PySem.Spec L2
/-- an iterator hands out the items -/
structure Serves (w : World) (K : PySem.W.Frag) (J : It) (H0 : Hp) (src : Src) : Prop where
  len : src.items.length ≤ sizeLine
  go : ∀ H S, Tups H0 H → RS w K H S → src.chk S → ∀ (i : Nat) d, src.items[i]? = some d → J.go i H ∧ ∀ x H', J.yld i H x H' → RD K H' d x ∧ RS w K H' S ∧ Ext H S H' S
  stop : ∀ H S, Tups H0 H → RS w K H S → src.chk S → J.stop src.items.length H
def liftI (w : World) (K : PySem.W.Frag) (W : WX) (f : EX → Env → Sto → (Src → Sto → Prop) → Prop) : TI := fun σ H R => ∃ σd S E P, RV K H σd σ ∧ RS w K H S ∧ WR w K W E σ H S ∧ f E σd S P ∧
  ∀ src S' J H', P src S' → Serves w K J H' src → RS w K H' S' → Ext H S H' S' → R J H'
theorem piW {X : Cx} {tg e : Expr} {t t' : TI} (h : PI X tg e t) (m : ∀ σ H R, t' σ H R → t σ H R) : PI X tg e t' := ⟨fun p s σ H R I q => h.run p s σ H R I (m σ H R q)⟩
section
variable {w : World} {K : PySem.W.Frag} {X : Cx} {W : WX} {Γ : List DSp} {fs : List (Str × D)}
theorem serves_tup {a : Addr} {xs : List D} {vs : List V} {H0 : Hp} (h : SqT K H0 a vs) (r : RDs K H0 xs vs) (hl : vs.length ≤ sizeLine) : Serves w K (Itt K a) H0 ⟨xs, fun _ => True⟩ where
  len := by rw [r.length]; exact hl
  go := fun H S t rs _ i d e => by
    obtain ⟨v, ev, rv⟩ := r.get e
    refine ⟨⟨vs, v, t.sq h, ev⟩, fun x H' ⟨e', q⟩ => ?_⟩
    subst e'
    have := q vs (t.sq h)
    rw [ev] at this; cases this
    exact ⟨rv.keep t, rs, .refl⟩
  stop := fun H S t rs _ => ⟨vs, t.sq h, by rw [r.length]; exact Nat.le_refl _⟩
theorem serves_lst {a : Addr} {xs : List D} {H0 : Hp} {S0 : Sto} (rs0 : RS w K H0 S0) (e0 : S0 a = some (.lst xs)) (hl : xs.length ≤ sizeLine) : Serves w K (Itl K a) H0 ⟨xs, fun S => S a = some (.lst xs)⟩ where
  len := hl
  go := fun H S t rs c i d e => by
    obtain ⟨vs, h1, r⟩ := rs a _ c
    obtain ⟨v, ev, rv⟩ := r.get e
    refine ⟨⟨vs, v, .of h1, ev⟩, fun x H' ⟨e', q⟩ => ?_⟩
    subst e'
    have := q vs (.of h1)
    rw [ev] at this; cases this
    exact ⟨rv, rs, .refl⟩
  stop := fun H S t rs c => by
    obtain ⟨vs, h1, r⟩ := rs a _ c
    exact ⟨vs, .of h1, by rw [r.length]; exact Nat.le_refl _⟩
theorem serves_str {z : Str} {H0 : Hp} (hl : z.length ≤ sizeLine) : Serves w K (Its z) H0 ⟨z.cps.toList.map fun c => .str ⟨#[c]⟩, fun _ => True⟩ where
  len := by simpa using (show z.cps.size ≤ sizeLine from hl)
  go := fun H S t rs c i d e => by
    simp only [List.getElem?_map, Option.map_eq_some_iff] at e
    obtain ⟨c, ec, rfl⟩ := e
    have ec' : z.cps[i]? = some c := by rw [← Array.getElem?_toList]; exact ec
    refine ⟨(Array.getElem?_eq_some_iff.mp ec').1, fun x H' ⟨e', c', ec'', ex⟩ => ?_⟩
    subst e' ex
    rw [ec'] at ec''; cases ec''
    exact ⟨rd_str.mpr rfl, rs, .refl⟩
  stop := fun H S t rs c => by show z.cps.size ≤ _; simp
theorem rngs_get {lo hi : Int} {i : Nat} {d : D} (e : (rngs lo hi)[i]? = some d) : i < (hi - lo).toNat ∧ d = .int (lo + i) := by
  simp only [rngs, List.getElem?_map, Option.map_eq_some_iff] at e
  obtain ⟨k, ek, rfl⟩ := e
  obtain ⟨hk, e2⟩ := List.getElem?_eq_some_iff.mp ek
  simp at hk e2
  subst e2
  exact ⟨by omega, rfl⟩
theorem serves_rng {lo hi : Int} {H0 : Hp} (hl : (hi - lo).toNat ≤ sizeLine) : Serves w K (Itr lo (hi - lo).toNat) H0 ⟨rngs lo hi, fun _ => True⟩ where
  len := by simpa [rngs] using hl
  go := fun H S t rs c i d e => by
    obtain ⟨h1, rfl⟩ := rngs_get e
    exact ⟨h1, fun x H' ⟨e', ex⟩ => by subst e' ex; exact ⟨rd_int.mpr rfl, rs, .refl⟩⟩
  stop := fun H S t rs c => by show _ ≤ _; simp [rngs]
/-! ### a value walked -/
theorem pi_val {tg e : Expr} {te : TE} (he : PE X e te) : PI X tg e (fun σ H R => te σ H fun x H1 => (∃ a xs, x = .ref a ∧ SqL X.K H1 a xs ∧ (xs.length ≤ sizeLine → R (Itl X.K a) H1)) ∨ (∃ a xs, x = .ref a ∧ SqT X.K H1 a xs ∧ (xs.length ≤ sizeLine → R (Itt X.K a) H1)) ∨ ∃ z, x = .str z ∧ R (Its z) H1) := by
  refine ⟨fun pins s σ H R I h => ?_⟩
  refine thn (he.run pins s σ H _ I h) fun v s1 ⟨x, H1, I1, r1, q⟩ => ?_
  rcases q with ⟨a, xs, e, hq, q⟩ | ⟨a, xs, e, hq, q⟩ | ⟨z, e, q⟩
  · subst e
    cases r1
    obtain ⟨its, rv, p, hz⟩ := I1.list hq
    refine wpAny_pyIter_list p.isList ?_
    refine ⟨s1.heap.objs.size, [s1.heap.objs.size], _, _, H1, rfl, I1.kept (t' := s1.toks) fun b o e => Heap.get?_push_of_some _ e, turn_list a _, ⟨_, Heap.get?_push_size _ rfl, rfl, rfl⟩, fun b hb => ?_, q hz⟩
    have e : b = s1.heap.objs.size := by simpa using hb
    subst e
    exact I1.fpOk (Nat.le_refl _) (I1.hok.fresh (Nat.le_refl _))
  · subst e
    cases r1
    obtain ⟨its, rv, p, hz⟩ := I1.tuple hq
    refine wpAny_pyIter_tuple (show s1.heap.IsTuple a its.toArray from p) ?_
    refine ⟨s1.heap.objs.size, [s1.heap.objs.size], _, _, H1, rfl, I1.kept (t' := s1.toks) fun b o e => Heap.get?_push_of_some _ e, turn_tuple a _, ⟨_, Heap.get?_push_size _ rfl, rfl, rfl⟩, fun b hb => ?_, q hz⟩
    have e : b = s1.heap.objs.size := by simpa using hb
    subst e
    exact I1.fpOk (Nat.le_refl _) (I1.hok.fresh (Nat.le_refl _))
  · subst e
    obtain ⟨t, rfl⟩ := r1
    cases ha : z.cps.all (· < 128)
    · exact wpAny_pyIter_wide ha (pi_one (tk := s1.toks) I1 _ (turn_str _ z t "str_iterator" (.inr rfl)) ⟨_, Heap.get?_push_size _ rfl, rfl, rfl⟩ q)
    · exact wpAny_pyIter_ascii ha (pi_one (tk := s1.toks) I1 _ (turn_str _ z t "str_ascii_iterator" (.inl rfl)) ⟨_, Heap.get?_push_size _ rfl, rfl, rfl⟩ q)
/-- what the dicts' file gives: a dict's keys walked -/
def DctIter (X : Cx) : Prop := ∀ (tg : Expr) (a : Addr) (pins : List (Addr × Obj)) (s : Shared) (σ : L2.St) (H : Hp) (S : Sto) (kvs : List (D × D)) (g : Gh) (R : It → Hp → Prop), L2.Inv X pins σ H s → RS X.w X.K H S → S a = some (.dct kvs g) →
  (∀ J, Serves X.w X.K J H ⟨kvs.map (·.1), fun S' => S' a = some (.dct kvs g)⟩ → R J H) → wpAny (model X.prog X.w) X.A (pyIter (.ref a)) (PIE X pins σ tg R) X.xe s
theorem i_ev (hd : DctIter X) {tg e : Expr} {a : IE} (he : PE X e (liftE X.w X.K W (wpE Γ fs a))) : PI X tg e (liftI X.w X.K W (wpI Γ fs (.ev a))) := by
  refine ⟨fun pins s σ H R I ⟨σd, S, E, P, rv, rs, wr, hw, hP⟩ => ?_⟩
  refine thn (he.run pins s σ H (fun x H1 => ∃ d S1, iterD d S1 (fun src => P src S1) ∧ RD X.K H1 d x ∧ RS X.w X.K H1 S1 ∧ Ext H S H1 S1) I ⟨σd, S, E, _, rv, rs, wr, hw, fun d S1 v H1 h1 rd rs1 e1 => ⟨d, S1, h1, rd, rs1, e1⟩⟩) fun v s1 ⟨x, H1, I1, r1, d, S1, h1, rd, rs1, e1⟩ => ?_
  have val : ∀ (Q : It → Hp → Prop), ((∃ a xs, x = .ref a ∧ SqL X.K H1 a xs ∧ (xs.length ≤ sizeLine → Q (Itl X.K a) H1)) ∨ (∃ a xs, x = .ref a ∧ SqT X.K H1 a xs ∧ (xs.length ≤ sizeLine → Q (Itt X.K a) H1)) ∨ ∃ z, x = .str z ∧ Q (Its z) H1) →
      wpAny (model X.prog X.w) X.A (pyIter v) (PIE X pins σ tg Q) X.xe s1 := by
    intro R q
    rcases q with ⟨a, xs, e, hq, q⟩ | ⟨a, xs, e, hq, q⟩ | ⟨z, e, q⟩
    · subst e
      cases r1
      obtain ⟨its, rv, p, hz⟩ := I1.list hq
      refine wpAny_pyIter_list p.isList ?_
      refine ⟨s1.heap.objs.size, [s1.heap.objs.size], _, _, H1, rfl, I1.kept (t' := s1.toks) fun b o e => Heap.get?_push_of_some _ e, turn_list a _, ⟨_, Heap.get?_push_size _ rfl, rfl, rfl⟩, fun b hb => ?_, q hz⟩
      have e : b = s1.heap.objs.size := by simpa using hb
      subst e
      exact I1.fpOk (Nat.le_refl _) (I1.hok.fresh (Nat.le_refl _))
    · subst e
      cases r1
      obtain ⟨its, rv, p, hz⟩ := I1.tuple hq
      refine wpAny_pyIter_tuple (show s1.heap.IsTuple a its.toArray from p) ?_
      refine ⟨s1.heap.objs.size, [s1.heap.objs.size], _, _, H1, rfl, I1.kept (t' := s1.toks) fun b o e => Heap.get?_push_of_some _ e, turn_tuple a _, ⟨_, Heap.get?_push_size _ rfl, rfl, rfl⟩, fun b hb => ?_, q hz⟩
      have e : b = s1.heap.objs.size := by simpa using hb
      subst e
      exact I1.fpOk (Nat.le_refl _) (I1.hok.fresh (Nat.le_refl _))
    · subst e
      obtain ⟨t, rfl⟩ := r1
      cases ha : z.cps.all (· < 128)
      · exact wpAny_pyIter_wide ha (pi_one (tk := s1.toks) I1 _ (turn_str _ z t "str_iterator" (.inr rfl)) ⟨_, Heap.get?_push_size _ rfl, rfl, rfl⟩ q)
      · exact wpAny_pyIter_ascii ha (pi_one (tk := s1.toks) I1 _ (turn_str _ z t "str_ascii_iterator" (.inl rfl)) ⟨_, Heap.get?_push_size _ rfl, rfl, rfl⟩ q)
  unfold iterD at h1
  split at h1
  · obtain ⟨a, vs, rfl, h2, r2⟩ := rd_tup.mp rd
    exact val _ (.inr (.inl ⟨a, vs, rfl, h2, fun hz => hP _ _ _ _ h1 (serves_tup h2 r2 hz) rs1 e1⟩))
  · rw [rd_str] at rd; subst rd
    exact val _ (.inr (.inr ⟨_, rfl, hP _ _ _ _ h1.2 (serves_str h1.1) rs1 e1⟩))
  · rw [rd_ref] at rd; subst rd
    split at h1
    · rename_i eS
      obtain ⟨vs, h2, r2⟩ := rs1 _ _ eS
      exact val _ (.inl ⟨_, vs, rfl, .of h2, fun hz => hP _ _ _ _ h1 (serves_lst rs1 eS (by rw [r2.length]; exact hz)) rs1 e1⟩)
    · rename_i eS
      cases r1
      exact hd tg _ pins s1 σ H1 S1 _ _ _ I1 rs1 eS fun J sv => hP _ _ _ _ h1 sv rs1 e1
    · exact h1.elim
  · exact h1.elim
theorem serves_en {k : Bool} {a : Addr} {xs : List D} {H0 : Hp} {chk : Sto → Prop} (hx : ∀ H S, Tups H0 H → RS w K H S → chk S → ∃ vs, SqX k K H a vs ∧ RDs K H xs vs) (hl : xs.length ≤ sizeLine) : Serves w K (ItEn k K a) H0 ⟨enums 0 xs, chk⟩ := by
  have en : ∀ (xs : List D) (n i : Nat) d, (enums n xs)[i]? = some d → ∃ x, xs[i]? = some x ∧ d = .tup [.int ((n + i : Nat) : Int), x] := by
    intro xs
    induction xs with
    | nil => intro n i d h; simp [enums] at h
    | cons x r ih =>
      intro n i d h
      cases i with
      | zero => simp only [enums, List.getElem?_cons_zero, Option.some.injEq] at h; exact ⟨x, by simp, h.symm⟩
      | succ i =>
        simp only [enums, List.getElem?_cons_succ] at h
        obtain ⟨y, h1, h2⟩ := ih (n + 1) i d h
        exact ⟨y, by simpa using h1, by rw [h2, show n + 1 + i = n + (i + 1) by omega]⟩
  have el : ∀ (xs : List D) (n : Nat), (enums n xs).length = xs.length := by
    intro xs
    induction xs with
    | nil => intro n; rfl
    | cons x r ih => intro n; simp [enums, ih]
  refine ⟨by rw [el]; exact hl, fun H S t rs c i d e => ?_, fun H S t rs c => ?_⟩
  · obtain ⟨x, ex, rfl⟩ := en xs 0 i d e
    obtain ⟨vs, h1, r⟩ := hx H S t rs c
    obtain ⟨v, ev, rv⟩ := r.get ex
    refine ⟨⟨vs, v, h1, ev⟩, fun y H' ⟨T, x', ey, hT, e', q⟩ => ?_⟩
    subst ey e'
    have := q vs h1
    rw [ev] at this; cases this
    refine ⟨rd_tup.mpr ⟨T, _, rfl, .of upd_same, .cons (rd_int.mpr (by rw [Nat.zero_add])) (.cons (rv.keep (tups_new hT)) .nil)⟩, rs.new hT, ext_new hT⟩
  · obtain ⟨vs, h1, r⟩ := hx H S t rs c
    exact ⟨vs, h1, by show _ = (enums 0 xs).length; rw [el, r.length]⟩
theorem serves_zi {k l : Bool} {a b : Addr} {xs ys : List D} {H0 : Hp} {c1 c2 : Sto → Prop} (hx : ∀ H S, Tups H0 H → RS w K H S → c1 S → ∃ vs, SqX k K H a vs ∧ RDs K H xs vs) (hy : ∀ H S, Tups H0 H → RS w K H S → c2 S → ∃ vs, SqX l K H b vs ∧ RDs K H ys vs)
    (hl : xs.length ≤ sizeLine) : Serves w K (ItZi k l K a b) H0 ⟨zips xs ys, fun S => c1 S ∧ c2 S⟩ := by
  have en : ∀ (xs ys : List D) (i : Nat) d, (zips xs ys)[i]? = some d → ∃ x y, xs[i]? = some x ∧ ys[i]? = some y ∧ d = .tup [x, y] := by
    intro xs
    induction xs with
    | nil => intro ys i d h; simp [zips] at h
    | cons x r ih =>
      intro ys i d h
      cases ys with
      | nil => simp [zips] at h
      | cons y q =>
        cases i with
        | zero => simp only [zips, List.getElem?_cons_zero, Option.some.injEq] at h; exact ⟨x, y, by simp, by simp, h.symm⟩
        | succ i =>
          simp only [zips, List.getElem?_cons_succ] at h
          obtain ⟨x', y', h1, h2, h3⟩ := ih q i d h
          exact ⟨x', y', by simpa using h1, by simpa using h2, h3⟩
  have el : ∀ (xs ys : List D), (zips xs ys).length = min xs.length ys.length := by
    intro xs
    induction xs with
    | nil => intro ys; simp [zips]
    | cons x r ih =>
      intro ys
      cases ys with
      | nil => simp [zips]
      | cons y q => simp [zips, ih]
  refine ⟨by rw [el]; exact Nat.le_trans (Nat.min_le_left _ _) hl, fun H S t rs c i d e => ?_, fun H S t rs c => ?_⟩
  · obtain ⟨x, y, ex, ey, rfl⟩ := en xs ys i d e
    obtain ⟨vs, h1, r⟩ := hx H S t rs c.1
    obtain ⟨us, h2, r2⟩ := hy H S t rs c.2
    obtain ⟨v, ev, rv⟩ := r.get ex
    obtain ⟨u, eu, ru⟩ := r2.get ey
    refine ⟨⟨vs, us, v, u, h1, h2, ev, eu⟩, fun z H' ⟨T, x', y', ez, hT, e', q1, q2⟩ => ?_⟩
    subst ez e'
    have h3 := q1 vs h1
    have h4 := q2 us h2
    rw [ev] at h3; cases h3
    rw [eu] at h4; cases h4
    exact ⟨rd_tup.mpr ⟨T, _, rfl, .of upd_same, .cons (rv.keep (tups_new hT)) (.cons (ru.keep (tups_new hT)) .nil)⟩, rs.new hT, ext_new hT⟩
  · obtain ⟨vs, h1, r⟩ := hx H S t rs c.1
    obtain ⟨us, h2, r2⟩ := hy H S t rs c.2
    exact ⟨vs, us, h1, h2, by show (zips xs ys).length = _; rw [el, r.length, r2.length]⟩
/-- a value as a list or a tuple that is walked -/
theorem iterX {H : Hp} {S : Sto} {d : D} {v : V} {P : Src → Prop} (rs : RS w K H S) (rd : RD K H d v) (h : iterT d S P) :
    ∃ k a xs vs chk, v = .ref a ∧ SqX k K H a vs ∧ RDs K H xs vs ∧ P ⟨xs, chk⟩ ∧ ∀ H' S', Tups H H' → RS w K H' S' → chk S' → ∃ vs', SqX k K H' a vs' ∧ RDs K H' xs vs' := by
  unfold iterT at h
  split at h
  · obtain ⟨a, vs, rfl, h2, r2⟩ := rd_tup.mp rd
    exact ⟨false, a, _, vs, _, rfl, h2, r2, h, fun H' S' t _ _ => ⟨vs, t.sq h2, r2.keep t⟩⟩
  · rw [rd_ref] at rd; subst rd
    split at h
    · rename_i eS
      obtain ⟨vs, h2, r2⟩ := rs _ _ eS
      exact ⟨true, _, _, vs, _, rfl, .of h2, r2, h, fun H' S' t rs' c => let ⟨vs', h3, r3⟩ := rs' _ _ c; ⟨vs', .of h3, r3⟩⟩
    · exact h.elim
  · exact h.elim
end
end TA
set_option Elab.async false
set_option linter.all false
set_option maxRecDepth 100000
/-! TA8d: ranges, enumerate, zip, items, lifted. -/
namespace TA
open PySem PySem.Spec L2
section
variable {w : World} {K : PySem.W.Frag} {X : Cx} {W : WX} {Γ : List DSp} {fs : List (Str × D)}
theorem serves_down {lo : Int} {n : Nat} {H0 : Hp} (hl : n ≤ sizeLine) : Serves w K (Itc lo (-1) n) H0 ⟨(List.range n).map fun (k : Nat) => .int (lo - k), fun _ => True⟩ where
  len := by simpa using hl
  go := fun H S t rs c i d e => by
    simp only [List.getElem?_map, Option.map_eq_some_iff] at e
    obtain ⟨k, ek, rfl⟩ := e
    obtain ⟨hk, e2⟩ := List.getElem?_eq_some_iff.mp ek
    simp at hk e2
    subst e2
    refine ⟨hk, fun x H' ⟨e', ex⟩ => ?_⟩
    subst e' ex
    exact ⟨rd_int.mpr (by congr 1; omega), rs, .refl⟩
  stop := fun H S t rs c => by show n ≤ _; simp
/-- one value given -/
theorem one_args {xs : List V} {H : Hp} {d : D} (h : RDs K H [d] xs) : ∃ v, xs = [v] ∧ RD K H d v := by
  obtain ⟨v, us, rfl, h1, h2⟩ := h.uncons
  simp only [RDs] at h2; subst h2
  exact ⟨v, rfl, h1⟩
theorem two_args {xs : List V} {H : Hp} {d e : D} (h : RDs K H [d, e] xs) : ∃ v u, xs = [v, u] ∧ RD K H d v ∧ RD K H e u := by
  obtain ⟨v, us, rfl, h1, h2⟩ := h.uncons
  obtain ⟨u, rfl, h3⟩ := one_args h2
  exact ⟨v, u, rfl, h1, h3⟩
theorem i_rng1 {tg a : Expr} {p pos : Pos} {as : IEs} (hg : Gl X "range") (hm : X.mg "range" = none) (ha : PA X [a] (liftEs X.w X.K W 1 (wpEs Γ fs as))) (hs : starEach [a] X.env = [(false, eval a X.env)]) :
    PI X tg (.Call (.Name "range" p) [a] [] pos) (liftI X.w X.K W (wpI Γ fs (.rng as))) :=
  piW (pi_range1 hg hm ha hs) fun σ H R ⟨σd, S, E, P, rv, rs, wr, hw, hP⟩ => ⟨σd, S, E, _, rv, rs, wr, hw, fun ds S1 vs H1 h1 hl rds rs1 e1 => by
    have e2 := rds.length
    rw [hl] at e2
    unfold rngD at h1
    split at h1
    · obtain ⟨v, rfl, r1⟩ := one_args rds
      rw [rd_int] at r1; subst r1
      rename_i j
      have hz : j < 2 ^ 62 := Int.lt_trans h1.2.1 (by decide)
      refine ⟨j, rfl, h1.1, hz, hP _ _ _ _ h1.2.2 ?_ rs1 e1⟩
      have := serves_rng (w := X.w) (K := X.K) (lo := 0) (hi := j) (H0 := H1) (by
        have := h1.2.1
        have : j < (sizeLine : Int) := this
        omega)
      simpa using this
    · simp at e2
    · simp at e2
    · exact h1.elim⟩
theorem i_rng2 {tg a b : Expr} {p pos : Pos} {as : IEs} (hg : Gl X "range") (hm : X.mg "range" = none) (ha : PA X [a, b] (liftEs X.w X.K W 2 (wpEs Γ fs as))) (hs : starEach [a, b] X.env = [(false, eval a X.env), (false, eval b X.env)])
    (hs2 : starEach [b] X.env = [(false, eval b X.env)]) : PI X tg (.Call (.Name "range" p) [a, b] [] pos) (liftI X.w X.K W (wpI Γ fs (.rng as))) :=
  piW (pi_range2 hg hm ha hs hs2) fun σ H R ⟨σd, S, E, P, rv, rs, wr, hw, hP⟩ => ⟨σd, S, E, _, rv, rs, wr, hw, fun ds S1 vs H1 h1 hl rds rs1 e1 => by
    have e2 := rds.length
    rw [hl] at e2
    unfold rngD at h1
    split at h1
    · simp at e2
    · obtain ⟨v, u, rfl, r1, r2⟩ := two_args rds
      rw [rd_int] at r1 r2; subst r1 r2
      rename_i i j
      refine ⟨i, j, rfl, ⟨h1.1.1, h1.1.2.1, h1.1.2.2.1, h1.1.2.2.2.1⟩, hP _ _ _ _ h1.2 (serves_rng (by
        have : j - i ≤ (sizeLine : Int) := h1.1.2.2.2.2
        omega)) rs1 e1⟩
    · simp at e2
    · exact h1.elim⟩
theorem i_rng3 {tg a b c : Expr} {p pos : Pos} {as : IEs} (hg : Gl X "range") (hm : X.mg "range" = none) (ha : PA X [a, b, c] (liftEs X.w X.K W 3 (wpEs Γ fs as)))
    (hs : starEach [a, b, c] X.env = (false, eval a X.env) :: starEach [b, c] X.env) (hpl : (backTo pos (starEach [b, c] X.env)).any (·.1) = false) :
    PI X tg (.Call (.Name "range" p) [a, b, c] [] pos) (liftI X.w X.K W (wpI Γ fs (.rng as))) :=
  piW (pi_range3 hg hm ha hs hpl) fun σ H R ⟨σd, S, E, P, rv, rs, wr, hw, hP⟩ => ⟨σd, S, E, _, rv, rs, wr, hw, fun ds S1 vs H1 h1 hl rds rs1 e1 => by
    have e2 := rds.length
    rw [hl] at e2
    unfold rngD at h1
    split at h1
    · simp at e2
    · simp at e2
    · obtain ⟨v, us, rfl, r1, r⟩ := rds.uncons
      obtain ⟨u, t, rfl, r2, r3⟩ := two_args r
      rw [rd_int] at r1 r2 r3; subst r1 r2 r3
      rename_i i j
      refine ⟨i, j, -1, _, rfl, RgC.neg h1.1.1 h1.1.2.1 h1.1.2.2.1 h1.1.2.2.2.1, hP _ _ _ _ h1.2 (serves_down (by
        have : i - j ≤ (sizeLine : Int) := h1.1.2.2.2.2
        omega)) rs1 e1⟩
    · exact h1.elim⟩
theorem i_enu {e : Expr} {a : IE} {x : Str} {p pos tpos : Pos} {elts : List Expr} {kk : Nat} (hg : Gl X x) (hm : X.mg x = none) (hv : bootBuiltins x = some (.type "enumerate")) (hn : x ≠ "__name__") (hdb : (x == ("__debug__" : Str)) = false)
    (he : PE X e (liftE X.w X.K W (wpE Γ fs a))) (hs : starEach [e] X.env = [(false, eval e X.env)]) : PI X (.Tuple elts kk tpos) (.Call (.Name x p) [e] [] pos) (liftI X.w X.K W (wpI Γ fs (.enu a))) :=
  piW (pi_en hg hm hv hn hdb (pa_cons he pa_nil hs) hs) fun σ H R ⟨σd, S, E, P, rv, rs, wr, hw, hP⟩ => ⟨σd, S, E, _, rv, rs, wr, hw, fun d S1 v H1 h1 rd rs1 e1 => by
    obtain ⟨k, b, xs, vs, chk, rfl, hq, r, q, go⟩ := iterX rs1 rd h1
    exact ⟨k, b, vs, rfl, hq, fun hz => hP _ _ _ _ q (serves_en (fun H S t rs c => go H S t rs c) (by rw [r.length]; exact hz)) rs1 e1⟩⟩
theorem i_zip {e e2 : Expr} {a b : IE} {x : Str} {p pos tpos : Pos} {elts : List Expr} {kk : Nat} (hg : Gl X x) (hm : X.mg x = none) (hv : bootBuiltins x = some (.type "zip")) (hn : x ≠ "__name__") (hdb : (x == ("__debug__" : Str)) = false)
    (he : PE X e (liftE X.w X.K W (wpE Γ fs a))) (he2 : PE X e2 (liftE X.w X.K W (wpE Γ fs b))) (hs : starEach [e, e2] X.env = (false, eval e X.env) :: starEach [e2] X.env) (hs2 : starEach [e2] X.env = [(false, eval e2 X.env)]) (hpl : (backTo pos (starEach [e2] X.env)).any (·.1) = false) :
    PI X (.Tuple elts kk tpos) (.Call (.Name x p) [e, e2] [] pos) (liftI X.w X.K W (wpI Γ fs (.zip a b))) :=
  piW (pi_zi hg hm hv hn hdb (pa_cons he (pa_cons he2 pa_nil hs2) hs) hs hpl) fun σ H R ⟨σd, S, E, P, rv, rs, wr, hw, hP⟩ => ⟨σd, S, E, _, rv, rs, wr, hw, fun d S1 v H1 h1 rd rs1 e1 =>
    ⟨σd, S1, E, _, rv.keep (e1.tups rs), rs1, wr.keep e1, h1, fun d2 S2 v2 H2 h2 rd2 rs2 e2 => by
      have rd := rd.keep (e2.tups rs1)
      obtain ⟨k, a, xs, vs, c1, rfl, hq, r, h2, go⟩ := iterX rs2 rd h2
      obtain ⟨l, b, ys, us, c2, rfl, hq2, r2, h2, go2⟩ := iterX rs2 rd2 h2
      exact ⟨k, l, a, b, vs, us, rfl, hq, hq2, fun z1 z2 => hP _ _ _ _ h2 (serves_zi (fun H S t rs c => go H S t rs c) (fun H S t rs c => go2 H S t rs c) (by rw [r.length]; exact z1)) rs2 (e1.trans e2)⟩⟩⟩
end
end TA
set_option Elab.async false
set_option linter.all false
set_option maxRecDepth 100000
/-! TA9a: targets, list comprehensions, lifted. -/
namespace TA
open PySem PySem.Spec L2
/-! ### slots forgotten -/
theorem wipeD_some {σ : Env} {i : Nat} {x : D} : ∀ {vs : List Nat}, (wipe σ vs)[i]? = some (some x) → σ[i]? = some (some x) ∧ i ∉ vs
  | [], h => ⟨h, by simp⟩
  | v :: vs, h => by
    unfold wipe at h
    by_cases hi : v = i
    · subst hi
      by_cases hv : v < (wipe σ vs).length
      · rw [List.getElem?_set_self hv] at h; cases h
      · rw [List.getElem?_eq_none (by simpa using hv)] at h; cases h
    · rw [List.getElem?_set_ne hi] at h
      obtain ⟨h1, h2⟩ := wipeD_some h
      exact ⟨h1, by simp only [List.mem_cons, not_or]; exact ⟨fun e => hi e.symm, h2⟩⟩
theorem wipeD_length (σ : Env) : ∀ vs : List Nat, (wipe σ vs).length = σ.length
  | [] => rfl
  | v :: vs => by unfold wipe; rw [List.length_set, wipeD_length σ vs]
theorem wipe_get {σ : L2.St} {vs : List Nat} (j : Nat) : (L2.wipe σ vs)[j]? = if j ∈ vs then (σ[j]?).map (fun _ => none) else σ[j]? := by
  induction vs with
  | nil => simp [L2.wipe]
  | cons v vs ih =>
    unfold L2.wipe
    by_cases hv : v = j
    · subst hv
      simp only [List.getElem?_set, if_true, L2.wipe_length, List.mem_cons, true_or]
      by_cases hl : v < σ.length
      · simp [hl]
      · simp [hl, List.getElem?_eq_none (Nat.le_of_not_lt hl)]
    · rw [List.getElem?_set_ne hv, ih]
      by_cases hm : j ∈ vs
      · simp [hm]
      · have : ¬ j = v := fun e => hv e.symm
        simp [hm, this]
theorem wipe_set_in {σ : L2.St} {vs : List Nat} {i : Nat} {x : Option V} (h : i ∈ vs) : L2.wipe (σ.set i x) vs = L2.wipe σ vs := by
  refine List.ext_getElem? fun j => ?_
  rw [wipe_get, wipe_get]
  by_cases hj : j ∈ vs
  · simp only [hj, if_true]
    by_cases e : i = j
    · subst e
      by_cases hl : i < σ.length
      · simp [hl]
      · simp [hl, List.getElem?_eq_none (Nat.le_of_not_lt hl)]
    · rw [List.getElem?_set_ne e]
  · simp only [hj, if_false]
    rw [List.getElem?_set_ne fun e => hj (by rw [← e]; exact h)]
theorem wipe_wipe {σ : L2.St} {vs : List Nat} : L2.wipe (L2.wipe σ vs) vs = L2.wipe σ vs := by
  refine List.ext_getElem? fun j => ?_
  rw [wipe_get, wipe_get]
  by_cases hj : j ∈ vs
  · simp [hj, Function.comp_def]
  · simp [hj]
section
variable {w : World} {K : PySem.W.Frag} {X : Cx} {W : WX} {Γ : List DSp} {fs : List (Str × D)}
theorem RV.wipe {H : Hp} {σd : Env} {σ : L2.St} (r : RV K H σd σ) (vs : List Nat) : RV K H (TA.wipe σd vs) (L2.wipe σ vs) := by
  refine ⟨by rw [wipeD_length, L2.wipe_length]; exact r.1, fun i d e => ?_⟩
  obtain ⟨h1, h2⟩ := wipeD_some e
  rw [L2.wipe_out h2]
  exact r.2 i d h1
theorem RV.set {H : Hp} {σd : Env} {σ : L2.St} {d : D} {v : V} (r : RV K H σd σ) (i : Nat) (rd : RD K H d v) : RV K H (σd.set i (some d)) (σ.set i (some v)) := by
  refine ⟨by simp [r.1], fun j e h => ?_⟩
  by_cases hj : i = j
  · subst hj
    by_cases hl : i < σd.length
    · rw [List.getElem?_set_self hl] at h
      cases h
      exact ⟨v, List.getElem?_set_self (by rw [← r.1]; exact hl), rd⟩
    · rw [List.getElem?_eq_none (by simpa using hl)] at h; cases h
  · rw [List.getElem?_set_ne hj] at h ⊢
    exact r.2 j e h
/-! ### targets -/
def liftG (K : PySem.W.Frag) (vs : List Nat) (f : D → Env → (Env → Prop) → Prop) : TG := fun v σ H Q => ∃ d σd P, RD K H d v ∧ RV K H σd σ ∧ f d σd P ∧ ∀ σd' σ', P σd' → RV K H σd' σ' → L2.wipe σ' vs = L2.wipe σ vs → Q σ' H
def liftGs (K : PySem.W.Frag) (n : Nat) (vs : List Nat) (f : List D → Env → (Env → Prop) → Prop) : TGs := fun us σ H Q => ∃ ds σd P, us.length = n ∧ RDs K H ds us ∧ RV K H σd σ ∧ f ds σd P ∧ ∀ σd' σ', P σd' → RV K H σd' σ' → L2.wipe σ' vs = L2.wipe σ vs → Q σ' H
theorem pgW {tg : Expr} {t t' : TG} (h : PG X tg t) (m : ∀ v σ H Q, t' v σ H Q → t v σ H Q) : PG X tg t' := ⟨fun pins s σ H v u Q I r q => h.run pins s σ H v u Q I r (m v σ H Q q)⟩
theorem pgsW {tg : List Expr} {t t' : TGs} (h : PGs X tg t) (m : ∀ v σ H Q, t' v σ H Q → t v σ H Q) : PGs X tg t' := ⟨fun pins s σ H v u Q I r q => h.run pins s σ H v u Q I r (m v σ H Q q)⟩
theorem g_nam {i : Nat} {x : Str} {pos : Pos} {vs : List Nat} (hN : X.N.Nodup) (hi : X.N[i]? = some x) (hx : Loc X.env.scope x) (hf : X.fn x = true ∨ X.env.scope.names.lookup x = some .local) (hv : i ∈ vs) : PG X (.Name x pos) (liftG X.K vs (wpT (.nam i))) :=
  pgW (pg_name hN hi hx hf) fun v σ H Q ⟨d, σd, P, rd, rv, hw, hP⟩ => by
    simp only [wpT] at hw
    exact hP _ _ hw (rv.set i rd) (wipe_set_in hv)
theorem gs_nil {vs : List Nat} : PGs X [] (liftGs X.K 0 vs (wpTs .nil)) :=
  pgsW pgs_nil fun us σ H Q ⟨ds, σd, P, hl, rds, rv, hw, hP⟩ => by
    have e : us = [] := List.length_eq_zero_iff.mp hl
    subst e
    have e2 := rds.length
    have : ds = [] := List.length_eq_zero_iff.mp (by simpa using e2)
    subst this
    exact ⟨rfl, hP _ _ hw rv rfl⟩
theorem gs_cons {e : Expr} {es : List Expr} {t : IT} {r : ITs} {vs : List Nat} (h1 : PG X e (liftG X.K vs (wpT t))) (h2 : PGs X es (liftGs X.K es.length vs (wpTs r)))
    (hs : (assignEach (e :: es) X.env).map (·.2) = assign e X.env :: (assignEach es X.env).map (·.2)) : PGs X (e :: es) (liftGs X.K (es.length + 1) vs (wpTs (.cons t r))) :=
  pgsW (pgs_cons h1 h2 hs) fun us σ H Q ⟨ds, σd, P, hl, rds, rv, hw, hP⟩ => by
    cases ds with
    | nil => simp only [RDs] at rds; subst rds; cases hl
    | cons d ds =>
      obtain ⟨v, vr, rfl, rd, rds⟩ := rds.uncons
      simp only [wpTs] at hw
      exact ⟨v, vr, rfl, d, σd, _, rd, rv, hw, fun σd' σ' hp rv' hw' => ⟨ds, σd', _, by simpa using hl, rds, rv', hp, fun σd2 σ2 hp2 rv2 hw2 => hP _ _ hp2 rv2 (hw2.trans hw')⟩⟩
theorem g_tup {es : List Expr} {k : Nat} {pos : Pos} {ts : ITs} {vs : List Nat} (hc : X.calm = true) (h : PGs X es (liftGs X.K es.length vs (wpTs ts))) (hn : (assignEach es X.env).length = es.length) (hst : (assignEach es X.env).findIdx? (·.1) = none)
    (hl : ∀ ds σ P, wpTs ts ds σ P → ds.length = es.length) : PG X (.Tuple es k pos) (liftG X.K vs (wpT (.tup ts))) :=
  pgW (pg_tup hc h hn hst) fun v σ H Q ⟨d, σd, P, rd, rv, hw, hP⟩ => by
    simp only [wpT] at hw
    split at hw
    · obtain ⟨a, us, rfl, h1, r1⟩ := rd_tup.mp rd
      have e := r1.length
      have e2 := hl _ _ _ hw
      exact ⟨a, us, rfl, h1, by omega, _, σd, P, by omega, r1, rv, hw, hP⟩
    · exact hw.elim
def itsLen : ITs → Nat
  | .nil => 0
  | .cons _ r => itsLen r + 1
mutual
theorem wpT_ex : ∀ (t : IT) {v : D} {σ : Env} {P : Env → Prop}, wpT t v σ P → ∃ σ', P σ'
  | .nam i, v, σ, P, h => by simp only [wpT] at h; exact ⟨_, h⟩
  | .tup ts, v, σ, P, h => by
    simp only [wpT] at h
    split at h
    · exact (wpTs_ex ts h).2
    · exact h.elim
theorem wpTs_ex : ∀ (ts : ITs) {ds : List D} {σ : Env} {P : Env → Prop}, wpTs ts ds σ P → ds.length = itsLen ts ∧ ∃ σ', P σ'
  | .nil, [], σ, P, h => by simp only [wpTs] at h; exact ⟨rfl, _, h⟩
  | .nil, _ :: _, _, _, h => by simp [wpTs] at h
  | .cons _ _, [], _, _, h => by simp [wpTs] at h
  | .cons t r, d :: ds, σ, P, h => by
    simp only [wpTs] at h
    obtain ⟨σ', h'⟩ := wpT_ex t h
    obtain ⟨h1, h2⟩ := wpTs_ex r h'
    exact ⟨by simp [itsLen, h1], h2⟩
end
/-! ### lists that the layer builds -/
theorem RS.own {H : Hp} {S : Sto} {p : Addr} {xs : List D} {vs : List V} (rs : RS w K H S) (h : H p = some (.lst vs)) (r : RDs K H xs vs) : RS w K H (put S p (.lst xs)) := fun a u e => by
  by_cases ne : a = p
  · subst ne; rw [put_same] at e; cases e; exact ⟨vs, h, r⟩
  · rw [put_ne ne] at e; exact rs a u e
theorem Ext.own {H H1 : Hp} {S S1 : Sto} {p : Addr} {so : SO} (e : Ext H1 S1 H S) (h : H1 p = none) : Ext H1 S1 H (put S p so) := by
  refine ⟨fun a o q n => ?_, fun a q n => ?_⟩
  · have ne := ne_of_none q h
    obtain ⟨h1, h2⟩ := e.out a o q n
    exact ⟨h1, by rw [put_ne ne]; exact h2⟩
  · by_cases ne : a = p
    · subst ne; exact h
    · rw [put_ne ne] at q; exact e.new a q n
theorem RS.other {H : Hp} {S : Sto} {p : Addr} {vs : List V} {us : List V} (rs : RS w K H S) (h : H p = some (.lst vs)) (n : S p = none) : RS w K (upd H p (.lst us)) S := fun a u e => by
  have ne : a ≠ p := fun z => by subst z; rw [n] at e; cases e
  exact (rs a u e).keep (tups_set h (fun _ q => nomatch q) (fun _ _ q => nomatch q)) fun u h => by rw [upd_ne ne]; exact h
theorem Ext.other {H H1 : Hp} {S S1 : Sto} {p : Addr} {o : HO} (e : Ext H1 S1 H S) (h : H1 p = none) : Ext H1 S1 (upd H p o) S :=
  ⟨fun a u q n => let ⟨h1, h2⟩ := e.out a u q n; ⟨by rw [upd_ne (ne_of_none q h)]; exact h1, h2⟩, e.new⟩
def WN : WX := fun _ _ _ _ => False
theorem wr_noE {σ : L2.St} {H : Hp} {S : Sto} : WR w K WN noE σ H S := fun c fs S' cls d H' h => h.elim
/-- a context of a block -/
abbrev inB (X : Cx) (scope : Scope) (P : Cx → Prop) : Prop := ∀ (s : Shared) (H : Hp) (C : Addr) (cl : List (Str × Addr)) (fp : List Addr), P (X.blk s H scope (compEnvC scope cl C X.env) fp)
theorem b_yes : PTs X [] (liftB X.w X.K W (wpB Γ fs .yes)) := ⟨fun pins s σ H Q I h => pts_nil.run pins s σ H Q I (by
  obtain ⟨σd, S, E, P, rv, rs, wr, hw, hP⟩ := h
  exact hP _ _ _ hw rs .refl)⟩
theorem drop_of_get {α : Type} {xs : List α} {i : Nat} (h : i < xs.length) : xs.drop i = xs[i] :: xs.drop (i + 1) := List.drop_eq_getElem_cons h
theorem lc_imp {vs0 : List Nat} {t : IT} {it : II} {c : IB} {e : IE} (σ : L2.St) (H : Hp) (Q : VK) (h : liftE w K W (wpE Γ fs (.lc vs0 t it c e)) σ H Q) :
    tLc (liftI w K W (wpI Γ fs it)) (liftG K vs0 (wpT t)) (liftB w K WN (wpB Γ fs c)) (liftE w K WN (wpE Γ fs e)) vs0 σ H Q := by
    obtain ⟨σd, S, E, P, rv, rs, wr, hw, hP⟩ := h
    simp only [wpE] at hw
    refine ⟨σd, S, E, _, rv, rs, wr, hw, fun src S1 J H1 h1 sv rs1 e1 Dd hD => ?_⟩
    refine ⟨fun i m H' => m = src.items.length - i ∧ i ≤ src.items.length ∧ ∃ S' acc vs, acc.length ≤ i ∧ RS w K H' S' ∧ H' Dd = some (.lst vs) ∧ S' Dd = none ∧ RDs K H' acc vs ∧ Ext H1 S1 H' S' ∧
      lcD src.chk (fun x K => wpT t x (TA.wipe σd vs0) K) (fun σ1 S K => wpB Γ fs c noE σ1 S K) (fun σ1 S acc K => wpE Γ fs e noE σ1 S fun y S' => K (acc ++ [y]) S') (src.items.drop i) acc S' fun ys S2 => ∀ p, S2 p = none → P (.ref p) (put S2 p (.lst ys)), ⟨src.items.length, by simp, Nat.zero_le _, S1, [], [], Nat.le_refl _, rs1.new hD, upd_same, rs1.free hD, .nil, ext_new hD, by simpa using h1⟩, ?_⟩
    rintro i m H2 ⟨rfl, hil, S2, acc, vs, hl, rs2, hD2, nD2, rda, e2, hlc⟩
    have tp : Tups H1 H2 := e2.tups rs1
    by_cases hlt : i < src.items.length
    · rw [drop_of_get hlt] at hlc
      simp only [lcD] at hlc
      obtain ⟨hck, hlc⟩ := hlc
      obtain ⟨hgo, hy⟩ := sv.go H2 S2 tp rs2 hck i _ (List.getElem?_eq_getElem hlt)
      refine .inr ⟨hgo, fun H' => ∃ m', m' < src.items.length - i ∧ m' = src.items.length - (i + 1) ∧ i + 1 ≤ src.items.length ∧ ∃ S' acc vs, acc.length ≤ i + 1 ∧ RS w K H' S' ∧ H' Dd = some (.lst vs) ∧ S' Dd = none ∧ RDs K H' acc vs ∧ Ext H1 S1 H' S' ∧
        lcD src.chk (fun x K => wpT t x (TA.wipe σd vs0) K) (fun σ1 S K => wpB Γ fs c noE σ1 S K) (fun σ1 S acc K => wpE Γ fs e noE σ1 S fun y S' => K (acc ++ [y]) S') (src.items.drop (i + 1)) acc S' fun ys S2 => ∀ p, S2 p = none → P (.ref p) (put S2 p (.lst ys)), fun H' ⟨m', a, b⟩ => ⟨m', a, b⟩, fun x H3 hx => ?_⟩
      obtain ⟨rdx, rs3, e3⟩ := hy x H3 hx
      obtain ⟨hD3, nD3⟩ := e3.out Dd _ hD2 nD2
      have rda3 := rda.keep (e3.tups rs2)
      have e13 := e2.trans e3
      refine ⟨_, TA.wipe σd vs0, _, rdx, (rv.keep ((e1.trans e13).tups rs)).wipe _, hlc, fun σd' σ' hp rv' hw' => ⟨hw'.trans wipe_wipe, σd', S2, noE, _, rv', rs3, wr_noE, hp, fun b S4 H4 hb rs4 e4 => ?_⟩⟩
      obtain ⟨hD4, nD4⟩ := e4.out Dd _ hD3 nD3
      have rda4 := rda3.keep (e4.tups rs3)
      have e14 := e13.trans e4
      cases b with
      | false =>
        simp only [Bool.false_eq_true, if_false] at hb ⊢
        exact ⟨_, by omega, rfl, hlt, S4, acc, vs, by omega, rs4, hD4, nD4, rda4, e14, hb⟩
      | true =>
        simp only [if_true] at hb ⊢
        refine ⟨σd', S4, noE, _, rv'.keep (e4.tups rs3), rs4, wr_noE, hb, fun y S5 u H5 h5 rdy rs5 e5 => ?_⟩
        obtain ⟨hD5, nD5⟩ := e5.out Dd _ hD4 nD4
        have rda5 := rda4.keep (e5.tups rs4)
        have hz : vs.length < sizeLine := by
          have := rda5.length
          have := sv.len
          omega
        refine ⟨vs, hD5, hz, _, by omega, rfl, hlt, S5, acc ++ [y], vs ++ [u], by simp; omega, rs5.other hD5 nD5, upd_same, nD5, ?_, (e14.trans e5).other hD, h5⟩
        exact (rda5.append (.cons rdy .nil)).keep (tups_set hD5 (fun _ q => nomatch q) (fun _ _ q => nomatch q))
    · have hi' : i = src.items.length := by omega
      subst hi'
      rw [List.drop_length] at hlc
      simp only [lcD] at hlc
      obtain ⟨hck, hlc⟩ := hlc
      exact .inl ⟨sv.stop H2 S2 tp rs2 hck, hP _ _ _ _ (hlc Dd nD2) (rd_ref.mpr rfl) (rs2.own hD2 rda) (e1.trans (e2.own hD))⟩
theorem e_lc {elt tg iter : Expr} {ifs : List Expr} {scope : Scope} {own : List (Str × Nat)} {pos : Pos} {t : IT} {it : II} {c : IB} {e : IE} (hc : X.calm = true) (hN : X.N.Nodup) (hi : PI X tg iter (liftI X.w X.K W (wpI Γ fs it))) (ok : BlkOk X.N X.env.scope scope own)
    (hg : inB X scope fun Y => PG Y tg (liftG X.K (own.map (·.2)) (wpT t))) (ht : inB X scope fun Y => PTs Y ifs (liftB X.w X.K WN (wpB Γ fs c))) (he : inB X scope fun Y => PE Y elt (liftE X.w X.K WN (wpE Γ fs e))) (hs : ∀ x, foldedSetIterable iter X.env x = pure x) :
    PE X (.ListComp elt [⟨tg, iter, ifs, 0⟩] scope pos) (liftE X.w X.K W (wpE Γ fs (.lc (own.map (·.2)) t it c e))) :=
  peW (pe_lc hc hN hi ok hg ht he hs) fun σ H Q h => lc_imp σ H Q h
end
end TA
set_option Elab.async false
set_option linter.all false
set_option maxRecDepth 100000
/-! TA9b: list comprehensions of two clauses, lifted. -/
namespace TA
open PySem PySem.Spec L2
section
variable {w : World} {K : PySem.W.Frag} {X : Cx} {W : WX} {Γ : List DSp} {fs : List (Str × D)}
/-- where the layer's list stands in the midst of a comprehension -/
def MidL (w : World) (K : PySem.W.Frag) (H1 : Hp) (S1 : Sto) (Dd : Addr) (H' : Hp) (go : List D → Sto → Prop) : Prop :=
  ∃ S' acc vs, RS w K H' S' ∧ H' Dd = some (.lst vs) ∧ S' Dd = none ∧ RDs K H' acc vs ∧ Ext H1 S1 H' S' ∧ go acc S'
theorem lc2_imp {vs0 vs1 : List Nat} {t t1 : IT} {it it1 : II} {c c1 : IB} {e : IE} (σ : L2.St) (H : Hp) (Q : VK) (h : liftE w K W (wpE Γ fs (.lc2 vs0 vs1 t it c t1 it1 c1 e)) σ H Q) :
    tLc2 (liftI w K W (wpI Γ fs it)) (liftG K vs0 (wpT t)) (liftB w K WN (wpB Γ fs c)) (liftI w K WN (wpI Γ fs it1)) (liftG K vs1 (wpT t1)) (liftB w K WN (wpB Γ fs c1)) (liftE w K WN (wpE Γ fs e)) vs0 vs1 σ H Q := by
    obtain ⟨σd, S, E, P, rv, rs, wr, hw, hP⟩ := h
    simp only [wpE] at hw
    refine ⟨σd, S, E, _, rv, rs, wr, hw, fun src S1 J H1 h1 sv rs1 e1 Dd hD => ?_⟩
    generalize hel : (fun (σ1 : Env) (S : Sto) (acc : List D) (K : LK) => wpI Γ fs it1 noE σ1 S fun src1 S' => lcD src1.chk (fun x K => wpT t1 x (TA.wipe σ1 vs1) K) (fun σ2 S K => wpB Γ fs c1 noE σ2 S K) (fun σ2 S acc K => wpE Γ fs e noE σ2 S fun y S' => acc.length < line ∧ K (acc ++ [y]) S') src1.items acc S' K) = el at h1
    generalize hfin : (fun (ys : List D) (S2 : Sto) => ∀ p, S2 p = none → P (.ref p) (put S2 p (.lst ys))) = fin at h1
    have base : MidL w K H1 S1 Dd (upd H1 Dd (.lst [])) fun acc S' => lcD src.chk (fun x K => wpT t x (TA.wipe σd vs0) K) (fun σ1 S K => wpB Γ fs c noE σ1 S K) el (src.items.drop 0) acc S' fin :=
      ⟨S1, [], [], rs1.new hD, upd_same, rs1.free hD, .nil, ext_new hD, by simpa using h1⟩
    refine ⟨fun i m H' => m = src.items.length - i ∧ i ≤ src.items.length ∧ MidL w K H1 S1 Dd H' fun acc S' => lcD src.chk (fun x K => wpT t x (TA.wipe σd vs0) K) (fun σ1 S K => wpB Γ fs c noE σ1 S K) el (src.items.drop i) acc S' fin,
      ⟨src.items.length, by simp, Nat.zero_le _, base⟩, ?_⟩
    rintro i m H2 ⟨rfl, hil, S2, acc, vs, rs2, hD2, nD2, rda, e2, hlc⟩
    have tp : Tups H1 H2 := e2.tups rs1
    by_cases hlt : i < src.items.length
    · rw [drop_of_get hlt] at hlc
      simp only [lcD] at hlc
      obtain ⟨hck, hlc⟩ := hlc
      obtain ⟨hgo, hy⟩ := sv.go H2 S2 tp rs2 hck i _ (List.getElem?_eq_getElem hlt)
      refine .inr ⟨hgo, fun H' => MidL w K H1 S1 Dd H' fun acc S' => lcD src.chk (fun x K => wpT t x (TA.wipe σd vs0) K) (fun σ1 S K => wpB Γ fs c noE σ1 S K) el (src.items.drop (i + 1)) acc S' fin,
        fun H' h => ⟨src.items.length - (i + 1), by omega, rfl, hlt, h⟩, fun x H3 hx => ?_⟩
      obtain ⟨rdx, rs3, e3⟩ := hy x H3 hx
      obtain ⟨hD3, nD3⟩ := e3.out Dd _ hD2 nD2
      have rda3 := rda.keep (e3.tups rs2)
      have e13 := e2.trans e3
      refine ⟨_, TA.wipe σd vs0, _, rdx, (rv.keep ((e1.trans e13).tups rs)).wipe _, hlc, fun σd' σ' hp rv' hw' => ⟨hw'.trans wipe_wipe, σd', S2, noE, _, rv', rs3, wr_noE, hp, fun b S4 H4 hb rs4 e4 => ?_⟩⟩
      obtain ⟨hD4, nD4⟩ := e4.out Dd _ hD3 nD3
      have rda4 := rda3.keep (e4.tups rs3)
      have e14 := e13.trans e4
      cases b with
      | false =>
        simp only [Bool.false_eq_true, if_false] at hb ⊢
        exact ⟨S4, acc, vs, rs4, hD4, nD4, rda4, e14, hb⟩
      | true =>
        simp only [if_true] at hb ⊢
        subst hel
        have rv4 := rv'.keep (e4.tups rs3)
        refine ⟨σd', S4, noE, _, rv4, rs4, wr_noE, hb, fun src1 S5 J1 H5 h5 sv1 rs5 e5 => ?_⟩
        obtain ⟨hD5, nD5⟩ := e5.out Dd _ hD4 nD4
        have rda5 := rda4.keep (e5.tups rs4)
        have e15 := e14.trans e5
        generalize hK : (fun (acc' : List D) (S2 : Sto) => lcD src.chk (fun x K => wpT t x (TA.wipe σd vs0) K) (fun σ1 S K => wpB Γ fs c noE σ1 S K) (fun (σ1 : Env) (S : Sto) (acc : List D) (K : LK) => wpI Γ fs it1 noE σ1 S fun src1 S' => lcD src1.chk (fun x K => wpT t1 x (TA.wipe σ1 vs1) K) (fun σ2 S K => wpB Γ fs c1 noE σ2 S K) (fun σ2 S acc K => wpE Γ fs e noE σ2 S fun y S' => acc.length < line ∧ K (acc ++ [y]) S') src1.items acc S' K) (src.items.drop (i + 1)) acc' S2 fin) = Kn at h5 ⊢
        refine ⟨fun j k H' => k = src1.items.length - j ∧ j ≤ src1.items.length ∧ Tups H5 H' ∧ MidL w K H1 S1 Dd H' fun acc S' => lcD src1.chk (fun x K => wpT t1 x (TA.wipe σd' vs1) K) (fun σ2 S K => wpB Γ fs c1 noE σ2 S K) (fun σ2 S acc K => wpE Γ fs e noE σ2 S fun y S' => acc.length < line ∧ K (acc ++ [y]) S') (src1.items.drop j) acc S' Kn,
          ⟨src1.items.length, by simp, Nat.zero_le _, .refl, S5, acc, vs, rs5, hD5, nD5, rda5, e15, by simpa using h5⟩, ?_⟩
        rintro j k H6 ⟨rfl, hjl, tp6, S6, acc6, vs6, rs6, hD6, nD6, rda6, e16, hlc6⟩
        by_cases hlt6 : j < src1.items.length
        · rw [drop_of_get hlt6] at hlc6
          simp only [lcD] at hlc6
          obtain ⟨hck6, hlc6⟩ := hlc6
          obtain ⟨hgo6, hy6⟩ := sv1.go H6 S6 tp6 rs6 hck6 j _ (List.getElem?_eq_getElem hlt6)
          refine .inr ⟨hgo6, fun H' => Tups H5 H' ∧ MidL w K H1 S1 Dd H' fun acc S' => lcD src1.chk (fun x K => wpT t1 x (TA.wipe σd' vs1) K) (fun σ2 S K => wpB Γ fs c1 noE σ2 S K) (fun σ2 S acc K => wpE Γ fs e noE σ2 S fun y S' => acc.length < line ∧ K (acc ++ [y]) S') (src1.items.drop (j + 1)) acc S' Kn,
            fun H' h => ⟨src1.items.length - (j + 1), by omega, rfl, hlt6, h⟩, fun x7 H7 hx7 => ?_⟩
          obtain ⟨rdx7, rs7, e7⟩ := hy6 x7 H7 hx7
          obtain ⟨hD7, nD7⟩ := e7.out Dd _ hD6 nD6
          have rda7 := rda6.keep (e7.tups rs6)
          have tp7 := tp6.trans (e7.tups rs6)
          have e17 := e16.trans e7
          have rv7 : RV K H7 σd' σ' := rv4.keep (((e5.tups rs4).trans tp7))
          refine ⟨_, TA.wipe σd' vs1, _, rdx7, rv7.wipe _, hlc6, fun σd8 σ8 hp8 rv8 hw8 => ⟨hw8.trans wipe_wipe, σd8, S6, noE, _, rv8, rs7, wr_noE, hp8, fun b S8 H8 hb rs8 e8 => ?_⟩⟩
          obtain ⟨hD8, nD8⟩ := e8.out Dd _ hD7 nD7
          have rda8 := rda7.keep (e8.tups rs7)
          have tp8 := tp7.trans (e8.tups rs7)
          have e18 := e17.trans e8
          cases b with
          | false =>
            simp only [Bool.false_eq_true, if_false] at hb ⊢
            exact ⟨tp8, S8, acc6, vs6, rs8, hD8, nD8, rda8, e18, hb⟩
          | true =>
            simp only [if_true] at hb ⊢
            refine ⟨σd8, S8, noE, _, rv8.keep (e8.tups rs7), rs8, wr_noE, hb, fun y S9 u H9 h9 rdy rs9 e9 => ?_⟩
            obtain ⟨hD9, nD9⟩ := e9.out Dd _ hD8 nD8
            have rda9 := rda8.keep (e9.tups rs8)
            have ts : Tups H9 (upd H9 Dd (.lst (vs6 ++ [u]))) := tups_set hD9 (fun _ q => nomatch q) (fun _ _ q => nomatch q)
            refine ⟨vs6, hD9, by rw [← rda9.length]; exact h9.1, (tp8.trans (e9.tups rs8)).trans ts, S9, acc6 ++ [y], vs6 ++ [u], rs9.other hD9 nD9, upd_same, nD9, ?_, (e18.trans e9).other hD, h9.2⟩
            exact (rda9.append (.cons rdy .nil)).keep ts
        · have hj' : j = src1.items.length := by omega
          subst hj'
          rw [List.drop_length] at hlc6
          simp only [lcD] at hlc6
          obtain ⟨hck6, hlc6⟩ := hlc6
          subst hK
          exact .inl ⟨sv1.stop H6 S6 tp6 rs6 hck6, S6, acc6, vs6, rs6, hD6, nD6, rda6, e16, hlc6⟩
    · have hi' : i = src.items.length := by omega
      subst hi'
      rw [List.drop_length] at hlc
      simp only [lcD] at hlc
      obtain ⟨hck, hlc⟩ := hlc
      subst hfin
      exact .inl ⟨sv.stop H2 S2 tp rs2 hck, hP _ _ _ _ (hlc Dd nD2) (rd_ref.mpr rfl) (rs2.own hD2 rda) (e1.trans (e2.own hD))⟩
theorem e_lc2 {elt tg iter tg1 iter1 : Expr} {ifs ifs1 : List Expr} {scope : Scope} {own : List (Str × Nat)} {vs1 : List Nat} {pos : Pos} {t t1 : IT} {it it1 : II} {c c1 : IB} {e : IE} (hc : X.calm = true) (hN : X.N.Nodup) (hi : PI X tg iter (liftI X.w X.K W (wpI Γ fs it))) (ok : BlkOk X.N X.env.scope scope own)
    (hv : ∀ i ∈ vs1, i ∈ own.map (·.2)) (hg : inB X scope fun Y => PG Y tg (liftG X.K (own.map (·.2)) (wpT t))) (ht : inB X scope fun Y => PTs Y ifs (liftB X.w X.K WN (wpB Γ fs c)))
    (hi1 : inB X scope fun Y => PI Y tg1 iter1 (liftI X.w X.K WN (wpI Γ fs it1))) (hg1 : inB X scope fun Y => PG Y tg1 (liftG X.K vs1 (wpT t1))) (ht1 : inB X scope fun Y => PTs Y ifs1 (liftB X.w X.K WN (wpB Γ fs c1)))
    (he : inB X scope fun Y => PE Y elt (liftE X.w X.K WN (wpE Γ fs e))) (hs : ∀ x, foldedSetIterable iter X.env x = pure x) (hs1 : ∀ env x, foldedSetIterable iter1 env x = pure x) :
    PE X (.ListComp elt [⟨tg, iter, ifs, 0⟩, ⟨tg1, iter1, ifs1, 0⟩] scope pos) (liftE X.w X.K W (wpE Γ fs (.lc2 (own.map (·.2)) vs1 t it c t1 it1 c1 e))) :=
  peW (pe_lc2 hc hN hi ok hv hg ht hi1 hg1 ht1 he hs hs1) fun σ H Q h => lc2_imp σ H Q h
end
end TA
set_option Elab.async false
set_option linter.all false
set_option maxRecDepth 100000
/-! TA9c: statements, lifted. -/
namespace TA
open PySem PySem.Spec L2
/-- the ends, in the layer and here -/
structure EndsR (w : World) (K : PySem.W.Frag) (W : WX) (k : Ks) (D : Ends) (H : Hp) (S : Sto) : Prop where
  nx : ∀ σd S' σ H', k.nx σd S' → RV K H' σd σ → RS w K H' S' → Ext H S H' S' → D.nx σ H'
  rt : ∀ d S' v H', k.rt d S' → RD K H' d v → RS w K H' S' → Ext H S H' S' → D.rt v H'
  bk : ∀ σd S' σ H', k.bk σd S' → RV K H' σd σ → RS w K H' S' → Ext H S H' S' → D.bk σ H'
  ct : ∀ σd S' σ H', k.ct σd S' → RV K H' σd σ → RS w K H' S' → Ext H S H' S' → D.ct σ H'
  ex : ∀ c gs σd S' cls d σ H', k.ex c gs σd S' → RX K H' c gs cls d → RV K H' σd σ → RS w K H' S' → Ext H S H' S' → W cls d σ H'
def liftS (w : World) (K : PySem.W.Frag) (W : WX) (f : Ks → Env → Sto → Prop) : TS := fun D σ H => ∃ σd S k, RV K H σd σ ∧ RS w K H S ∧ EndsR w K W k D H S ∧ f k σd S
section
variable {w : World} {K : PySem.W.Frag} {W : WX} {k : Ks} {D : Ends} {H H1 : Hp} {S S1 : Sto}
theorem EndsR.keep (h : EndsR w K W k D H S) (e : Ext H S H1 S1) : EndsR w K W k D H1 S1 :=
  ⟨fun σd S' σ H' a b c d => h.nx σd S' σ H' a b c (e.trans d), fun d S' v H' a b c x => h.rt d S' v H' a b c (e.trans x), fun σd S' σ H' a b c d => h.bk σd S' σ H' a b c (e.trans d), fun σd S' σ H' a b c d => h.ct σd S' σ H' a b c (e.trans d),
   fun c gs σd S' cls d σ H' a b x y z => h.ex c gs σd S' cls d σ H' a b x y (e.trans z)⟩
theorem EndsR.wr (h : EndsR w K W k D H S) {σd : Env} {σ : L2.St} (rs : RS w K H S) (rv : RV K H σd σ) : WR w K W (k.E σd) σ H S := fun c fs S' cls d H' e x rs' ex => h.ex c fs σd S' cls d σ H' e x (rv.keep (ex.tups rs)) rs' ex
end
section
variable {w : World} {K : PySem.W.Frag} {X : Cx} {W : WX} {Γ : List DSp} {fs : List (Str × D)} {pos : Pos}
theorem ss_nil : PSs X [] (liftS X.w X.K W (wpSs Γ fs .nil)) := pssW pss_nil fun D σ H ⟨σd, S, k, rv, rs, en, hw⟩ => en.nx _ _ _ _ (by simpa only [wpSs] using hw) rv rs .refl
theorem ss_cons {st : Stmt} {r : List Stmt} {s : IS} {ss : ISs} (h1 : PS X st (liftS X.w X.K W (wpS Γ fs s))) (h2 : PSs X r (liftS X.w X.K W (wpSs Γ fs ss))) : PSs X (st :: r) (liftS X.w X.K W (wpSs Γ fs (.cons s ss))) :=
  pssW (pss_cons h1 h2) fun D σ H ⟨σd, S, k, rv, rs, en, hw⟩ => by
    simp only [wpSs] at hw
    exact ⟨σd, S, { k with nx := fun σ1 S1 => wpSs Γ fs ss k σ1 S1 }, rv, rs, ⟨fun σd1 S1 σ1 H1 a rv1 rs1 e1 => ⟨σd1, S1, k, rv1, rs1, en.keep e1, a⟩, en.rt, en.bk, en.ct, en.ex⟩, hw⟩
theorem s_pas : PS X (.Pass pos) (liftS X.w X.K W (wpS Γ fs .pas)) := psW ps_pass fun D σ H ⟨σd, S, k, rv, rs, en, hw⟩ => en.nx _ _ _ _ hw rv rs .refl
theorem s_brk : PS X (.Break pos) (liftS X.w X.K W (wpS Γ fs .brk)) := psW ps_break fun D σ H ⟨σd, S, k, rv, rs, en, hw⟩ => en.bk _ _ _ _ hw rv rs .refl
theorem s_cnt : PS X (.Continue pos) (liftS X.w X.K W (wpS Γ fs .cnt)) := psW ps_continue fun D σ H ⟨σd, S, k, rv, rs, en, hw⟩ => en.ct _ _ _ _ hw rv rs .refl
theorem s_doc {x j pos'} : PS X (.Expr (.Constant (.str x) j pos) pos') (liftS X.w X.K W (wpS Γ fs .pas)) := psW ps_doc fun D σ H ⟨σd, S, k, rv, rs, en, hw⟩ => en.nx _ _ _ _ hw rv rs .refl
theorem s_ex {e : Expr} {a : IE} (he : PE X e (liftE X.w X.K W (wpE Γ fs a))) (hs : swapsWith e none pos.line X.env = pure false) : PS X (.Expr e pos) (liftS X.w X.K W (wpS Γ fs (.ex a))) :=
  psW (ps_expr he hs) fun D σ H ⟨σd, S, k, rv, rs, en, hw⟩ => by
    simp only [wpS] at hw
    exact ⟨σd, S, k.E σd, _, rv, rs, en.wr rs rv, hw, fun d S1 v H1 h1 rd rs1 e1 => en.nx _ _ _ _ h1 (rv.keep (e1.tups rs)) rs1 e1⟩
theorem s_ret {e : Expr} {a : IE} (he : PE X e (liftE X.w X.K W (wpE Γ fs a))) : PS X (.Return (some e) pos) (liftS X.w X.K W (wpS Γ fs (.ret a))) :=
  psW (ps_ret he) fun D σ H ⟨σd, S, k, rv, rs, en, hw⟩ => by
    simp only [wpS] at hw
    exact ⟨σd, S, k.E σd, _, rv, rs, en.wr rs rv, hw, fun d S1 v H1 h1 rd rs1 e1 => en.rt _ _ _ _ h1 rd rs1 e1⟩
theorem s_retN : PS X (.Return none pos) (liftS X.w X.K W (wpS Γ fs (.ret (.con .non)))) :=
  psW ps_retN fun D σ H ⟨σd, S, k, rv, rs, en, hw⟩ => by
    simp only [wpS, wpE] at hw
    exact en.rt _ _ _ _ hw (rd_non.mpr rfl) rs .refl
theorem s_iff {c : Expr} {p q : List Stmt} {b : IB} {s t : ISs} (hc : PT X c (liftB X.w X.K W (wpB Γ fs b))) (hp : PSs X p (liftS X.w X.K W (wpSs Γ fs s))) (hq : PSs X q (liftS X.w X.K W (wpSs Γ fs t))) :
    PS X (.If c p q pos) (liftS X.w X.K W (wpS Γ fs (.iff b s t))) :=
  psW (ps_if hc hp hq) fun D σ H ⟨σd, S, k, rv, rs, en, hw⟩ => by
    simp only [wpS] at hw
    refine ⟨σd, S, k.E σd, _, rv, rs, en.wr rs rv, hw, fun c S1 H1 h1 rs1 e1 => ?_⟩
    cases c with
    | true => exact iteT ⟨σd, S1, k, rv.keep (e1.tups rs), rs1, en.keep e1, h1⟩
    | false => exact iteF ⟨σd, S1, k, rv.keep (e1.tups rs), rs1, en.keep e1, h1⟩
theorem s_asg {tg e : Expr} {t : IT} {a : IE} {vs : List Nat} (he : PE X e (liftE X.w X.K W (wpE Γ fs a))) (hg : PG X tg (liftG X.K vs (wpT t))) (hs : swapsWithSole [tg] e pos.line X.env = pure false) (hw : swappedStores [tg] e X.env = pure none)
    (h1 : (assignEach [tg] X.env).map (·.2) = [assign tg X.env]) : PS X (.Assign [tg] e pos) (liftS X.w X.K W (wpS Γ fs (.asg t a))) :=
  psW (ps_asg he hg hs hw h1) fun D σ H ⟨σd, S, k, rv, rs, en, hw⟩ => by
    simp only [wpS] at hw
    exact ⟨σd, S, k.E σd, _, rv, rs, en.wr rs rv, hw, fun d S1 v H1 h1 rd rs1 e1 => ⟨d, σd, _, rd, rv.keep (e1.tups rs), h1, fun σd' σ' hp rv' _ => en.nx _ _ _ _ hp rv' rs1 e1⟩⟩
/-- a name set to a comprehension on the same line -/
theorem s_setLc {i : Nat} {e : Expr} {tg : Expr} {a : IE} {te : TE} (h : PS X (.Assign [tg] e pos) (tAsg te (gName i))) (m : ∀ σ H Q, liftE X.w X.K W (wpE Γ fs a) σ H Q → te σ H Q) : PS X (.Assign [tg] e pos) (liftS X.w X.K W (wpS Γ fs (.asg (.nam i) a))) :=
  psW h fun D σ H ⟨σd, S, k, rv, rs, en, hw⟩ => by
    simp only [wpS] at hw
    refine m _ _ _ ⟨σd, S, k.E σd, _, rv, rs, en.wr rs rv, hw, fun d S1 v H1 h1 rd rs1 e1 => ?_⟩
    simp only [wpT] at h1
    exact en.nx _ _ _ _ h1 ((rv.keep (e1.tups rs)).set i rd) rs1 e1
theorem s_par {i j : Nat} {x y : Str} {a b : Expr} {px py pt : Pos} {kt k2 pt2} {u v : IE} (hc : X.calm = true) (hN : X.N.Nodup) (hi : X.N[i]? = some x) (hj : X.N[j]? = some y) (hij : i ≠ j)
    (hx : X.env.scope.names.lookup x = some .local) (hy : X.env.scope.names.lookup y = some .local) (ha : PA X [a, b] (liftEs X.w X.K W 2 (wpEs Γ fs (.cons u (.cons v .nil)))))
    (hw : swappedStores [.Tuple [.Name x px, .Name y py] kt pt] (.Tuple [a, b] k2 pt2) X.env = pure (some [x, y])) (hs : swapsWithSole [.Tuple [.Name x px, .Name y py] kt pt] (.Tuple [a, b] k2 pt2) pos.line X.env = pure false) :
    PS X (.Assign [.Tuple [.Name x px, .Name y py] kt pt] (.Tuple [a, b] k2 pt2) pos) (liftS X.w X.K W (wpS Γ fs (.asg (.tup (.cons (.nam i) (.cons (.nam j) .nil))) (.tup (.cons u (.cons v .nil)))))) :=
  psW (ps_par hc hN hi hj hij hx hy ha hw hs) fun D σ H ⟨σd, S, k, rv, rs, en, hw⟩ => by
    rw [wpS, wpE] at hw
    refine ⟨σd, S, k.E σd, _, rv, rs, en.wr rs rv, hw, fun ds S1 vs H1 h1 hl rds rs1 e1 => ?_⟩
    simp only [wpT] at h1
    have e := (wpTs_ex _ h1).1
    match ds, e, rds, h1 with
    | [d, d'], _, rds, h1 =>
      obtain ⟨p, q, rfl, r1, r2⟩ := two_args rds
      simp only [wpTs, wpT] at h1
      exact ⟨p, q, rfl, en.nx _ _ _ _ h1 (((rv.keep (e1.tups rs)).set i r1).set j r2) rs1 e1⟩
theorem s_par3 {i j l : Nat} {x y z : Str} {a b c : Expr} {px py pz pt : Pos} {kt k2 pt2} {u v r : IE} (hc : X.calm = true) (hN : X.N.Nodup) (hi : X.N[i]? = some x) (hj : X.N[j]? = some y) (hl : X.N[l]? = some z) (hij : i ≠ j) (hil : i ≠ l) (hjl : j ≠ l)
    (hx : X.env.scope.names.lookup x = some .local) (hy : X.env.scope.names.lookup y = some .local) (hz : X.env.scope.names.lookup z = some .local) (ha : PA X [a, b, c] (liftEs X.w X.K W 3 (wpEs Γ fs (.cons u (.cons v (.cons r .nil))))))
    (hw : swappedStores [.Tuple [.Name x px, .Name y py, .Name z pz] kt pt] (.Tuple [a, b, c] k2 pt2) X.env = pure (some [x, y, z])) (hs : swapsWithSole [.Tuple [.Name x px, .Name y py, .Name z pz] kt pt] (.Tuple [a, b, c] k2 pt2) pos.line X.env = pure false) :
    PS X (.Assign [.Tuple [.Name x px, .Name y py, .Name z pz] kt pt] (.Tuple [a, b, c] k2 pt2) pos) (liftS X.w X.K W (wpS Γ fs (.asg (.tup (.cons (.nam i) (.cons (.nam j) (.cons (.nam l) .nil)))) (.tup (.cons u (.cons v (.cons r .nil))))))) :=
  psW (ps_par3 hc hN hi hj hl hij hil hjl hx hy hz ha hw hs) fun D σ H ⟨σd, S, k, rv, rs, en, hw⟩ => by
    rw [wpS, wpE] at hw
    refine ⟨σd, S, k.E σd, _, rv, rs, en.wr rs rv, hw, fun ds S1 vs H1 h1 hl rds rs1 e1 => ?_⟩
    simp only [wpT] at h1
    have e := (wpTs_ex _ h1).1
    match ds, e, rds, h1 with
    | [d, d', d''], _, rds, h1 =>
      obtain ⟨p, us, rfl, r1, rds⟩ := rds.uncons
      obtain ⟨q, t, rfl, r2, r3⟩ := two_args rds
      simp only [wpTs, wpT] at h1
      exact ⟨p, q, t, rfl, en.nx _ _ _ _ h1 ((((rv.keep (e1.tups rs)).set i r1).set j r2).set l r3) rs1 e1⟩
theorem s_aug {i : Nat} {x : Str} {e : Expr} {op : Operator} {pos' : Pos} {a : IE} (hN : X.N.Nodup) (hi : X.N[i]? = some x) (hx : Loc X.env.scope x) (he : PE X e (liftE X.w X.K W (wpE Γ fs a))) (ho : PIp X op (liftR X.w X.K (ipD op))) (hf : X.fn x = true ∨ X.env.scope.names.lookup x = some .local) :
    PS X (.AugAssign (.Name x pos') op e pos) (liftS X.w X.K W (wpS Γ fs (.aug i op a))) :=
  psW (ps_aug hN hi hx he ho hf) fun D σ H ⟨σd, S, k, rv, rs, en, hw⟩ => by
    simp only [wpS] at hw
    split at hw
    · rename_i y hy
      obtain ⟨v, ev, rd⟩ := rv.2 i y hy
      refine ⟨v, ev, σd, S, k.E σd, _, rv, rs, en.wr rs rv, hw, fun d S1 u H1 h1 rdu rs1 e1 => ⟨y, d, S1, _, rd.keep (e1.tups rs), rdu, rs1, h1, fun z S2 zv H2 h2 rdz rs2 e2 => ?_⟩⟩
      exact en.nx _ _ _ _ h2 ((rv.keep ((e1.trans e2).tups rs)).set i rdz) rs2 (e1.trans e2)
    · exact hw.elim
theorem s_whl {c : Expr} {body : List Stmt} {b : IB} {s : ISs} (hp : PassesOwn (model X.prog X.w) X.A X.env X.xe) (hc : PT X c (liftB X.w X.K W (wpB Γ fs b))) (hb : PSs X body (liftS X.w X.K W (wpSs Γ fs s))) :
    PS X (.While c body [] pos) (liftS X.w X.K W (wpS Γ fs (.whl b s))) :=
  psW (ps_while hp hc hb) fun D σ H ⟨σd, S, k, rv, rs, en, hw⟩ => by
    simp only [wpS] at hw
    obtain ⟨Wd, ⟨m0, h0⟩, turn⟩ := hw
    refine ⟨fun m σ' H' => ∃ σd' S', Wd m σd' S' ∧ RV X.K H' σd' σ' ∧ RS X.w X.K H' S' ∧ Ext H S H' S', ⟨m0, σd, S, h0, rv, rs, .refl⟩, ?_⟩
    rintro m σ1 H1 ⟨σd1, S1, w1, rv1, rs1, e1⟩
    refine ⟨σd1, S1, k.E σd1, _, rv1, rs1, (en.keep e1).wr rs1 rv1, turn m σd1 S1 w1, fun b S2 H2 h2 rs2 e2 => ?_⟩
    cases b with
    | true =>
      simp only [if_true] at h2 ⊢
      refine ⟨fun σ' H' => ∃ m', m' < m ∧ ∃ σd' S', Wd m' σd' S' ∧ RV X.K H' σd' σ' ∧ RS X.w X.K H' S' ∧ Ext H S H' S', fun σ' H' h => h, σd1, S2, _, rv1.keep (e2.tups rs1), rs2, ?_, h2⟩
      have en2 := en.keep (e1.trans e2)
      exact ⟨fun σd3 S3 σ3 H3 ⟨m', hm, hw⟩ rv3 rs3 e3 => ⟨m', hm, σd3, S3, hw, rv3, rs3, (e1.trans e2).trans e3⟩, en2.rt, en2.nx, fun σd3 S3 σ3 H3 ⟨m', hm, hw⟩ rv3 rs3 e3 => ⟨m', hm, σd3, S3, hw, rv3, rs3, (e1.trans e2).trans e3⟩, en2.ex⟩
    | false =>
      simp only [Bool.false_eq_true, if_false] at h2 ⊢
      exact en.nx _ _ _ _ h2 (rv1.keep (e2.tups rs1)) rs2 (e1.trans e2)
theorem s_frr {tg iter : Expr} {body : List Stmt} {t : IT} {it : II} {s : ISs} {vs : List Nat} (hp : PassesOwn (model X.prog X.w) X.A X.env X.xe) (hc : X.calm = true) (hi : PI X tg iter (liftI X.w X.K W (wpI Γ fs it))) (hg : PG X tg (liftG X.K vs (wpT t))) (hb : PSs X body (liftS X.w X.K W (wpSs Γ fs s)))
    (hs : ∀ x, foldedSetIterable iter X.env x = pure x) : PS X (.For tg iter body [] pos) (liftS X.w X.K W (wpS Γ fs (.frr t it s))) :=
  psW (ps_for hp hc hi hg hb hs) fun D σ H ⟨σd, S, k, rv, rs, en, hw⟩ => by
    simp only [wpS] at hw
    refine ⟨σd, S, k.E σd, _, rv, rs, en.wr rs rv, hw, fun src S1 J H1 h1 sv rs1 e1 => ?_⟩
    refine ⟨fun i m σ' H' => m = src.items.length - i ∧ i ≤ src.items.length ∧ ∃ σd' S', RV X.K H' σd' σ' ∧ RS X.w X.K H' S' ∧ Ext H1 S1 H' S' ∧ loopD src.chk (fun x σ Q => wpT t x σ Q) (fun K σ S => wpSs Γ fs s K σ S) (src.items.drop i) k σd' S',
      ⟨src.items.length, by simp, Nat.zero_le _, σd, S1, rv.keep (e1.tups rs), rs1, .refl, by simpa using h1⟩, ?_⟩
    rintro i m σ2 H2 ⟨rfl, hil, σd2, S2, rv2, rs2, e2, hlc⟩
    have tp : Tups H1 H2 := e2.tups rs1
    by_cases hlt : i < src.items.length
    · rw [drop_of_get hlt] at hlc
      simp only [loopD] at hlc
      obtain ⟨hck, hlc⟩ := hlc
      obtain ⟨hgo, hy⟩ := sv.go H2 S2 tp rs2 hck i _ (List.getElem?_eq_getElem hlt)
      refine .inr ⟨hgo, fun σ' H' => ∃ σd' S', RV X.K H' σd' σ' ∧ RS X.w X.K H' S' ∧ Ext H1 S1 H' S' ∧ loopD src.chk (fun x σ Q => wpT t x σ Q) (fun K σ S => wpSs Γ fs s K σ S) (src.items.drop (i + 1)) k σd' S',
        fun σ' H' h => ⟨src.items.length - (i + 1), by omega, rfl, hlt, h⟩, fun x H3 hx => ?_⟩
      obtain ⟨rdx, rs3, e3⟩ := hy x H3 hx
      refine ⟨_, σd2, _, rdx, rv2.keep (e3.tups rs2), hlc, fun σd' σ' hp rv' _ => ⟨σd', S2, _, rv', rs3, ?_, hp⟩⟩
      have e23 := e2.trans e3
      have en3 := en.keep (e1.trans e23)
      exact ⟨fun σd4 S4 σ4 H4 h rv4 rs4 e4 => ⟨σd4, S4, rv4, rs4, e23.trans e4, h⟩, en3.rt, en3.nx, fun σd4 S4 σ4 H4 h rv4 rs4 e4 => ⟨σd4, S4, rv4, rs4, e23.trans e4, h⟩, en3.ex⟩
    · have hi' : i = src.items.length := by omega
      subst hi'
      rw [List.drop_length] at hlc
      simp only [loopD] at hlc
      exact .inl ⟨sv.stop H2 S2 tp rs2 hlc.1, en.nx _ _ _ _ hlc.2 rv2 rs2 (e1.trans e2)⟩
/-! ### o[i] = v -/
/-- what the dicts' file gives -/
def DctSet (X : Cx) : Prop := ∀ (pins : List (Addr × Obj)) (s : Shared) (σ : L2.St) (H : Hp) (S : Sto) (a : Addr) (kvs : List (D × D)) (g : Gh) (i v : D) (iV vV : V) (iv u : Value) (Q : Hp → Prop), L2.Inv X pins σ H s → RS X.w X.K H S → S a = some (.dct kvs g) → RD X.K H i iV → RD X.K H v vV → RelV iV iv → RelV vV u → fitK i kvs = true → kvs.length < line →
  (∀ H' g', RS X.w X.K H' (put S a (.dct (putK i v kvs) g')) → Ext H S H' (put S a (.dct (putK i v kvs) g')) → Q H') → wpAny (model X.prog X.w) X.A (setItem (.ref a) iv u) (fun _ s' => ∃ H', L2.Inv X pins σ H' s' ∧ Q H') X.xe s
def liftSet (w : World) (K : PySem.W.Frag) : TSet := fun o i v H Q => ∃ a b c S P, RD K H a o ∧ RD K H b i ∧ RD K H c v ∧ RS w K H S ∧ subD a b c S P ∧ ∀ S' H', P S' → RS w K H' S' → Ext H S H' S' → Q H'
theorem set_any (hd : DctSet X) : PSet X (liftSet X.w X.K) := by
  intro pins s σ H o i v ov iv u Q I ro ri rv h
  obtain ⟨a, b, c, S, P, ra, rb, rc, rs, hf, hP⟩ := h
  unfold subD at hf
  split at hf
  · rename_i p
    rw [rd_ref] at ra; subst ra
    split at hf
    · rename_i xs k eS
      rw [rd_int] at rb; subst rb
      obtain ⟨j, hj, hlt, hq⟩ := hf
      obtain ⟨vs, h1, r1⟩ := rs p _ eS
      have hl := r1.length
      refine set_list pins s σ H _ _ _ ov iv u Q I ro ri rv ⟨p, vs, k, j, rfl, rfl, h1, ?_, ?_⟩
      · unfold ixN
        rw [← hl]
        by_cases h0 : 0 ≤ k
        · rw [if_pos h0] at hj ⊢
          rw [if_pos (by omega)]
          congr 1; omega
        · rw [if_neg h0] at hj ⊢
          rw [if_pos (by omega)]
          congr 1; omega
      · refine hP _ _ hq (rs.set h1 (fun _ q => nomatch q) (fun _ _ q => nomatch q) ⟨_, upd_same, (r1.set rc j).keep ?_⟩) (ext_set eS)
        exact tups_set h1 (fun _ q => nomatch q) (fun _ _ q => nomatch q)
    · rename_i kvs gh eS
      cases ro
      exact hd pins s σ H S p kvs _ _ c _ v iv u Q I rs eS rb rc ri rv hf.1 hf.2.1 fun H' g' rs' e' => hP _ _ (hf.2.2 g') rs' e'
    · exact hf.elim
  · exact hf.elim
theorem s_asub {o i e : Expr} {a b c : IE} {tpos : Pos} (hd : DctSet X) (he : PE X e (liftE X.w X.K W (wpE Γ fs c))) (ho : PE X o (liftE X.w X.K W (wpE Γ fs a))) (hi : PE X i (liftE X.w X.K W (wpE Γ fs b)))
    (ha : ∀ v, assign (.Subscript o i tpos) X.env v = (do
      let ov ← holding [v] (eval o X.env)
      let iv ← holding [v, ov] (eval i X.env)
      standAt tpos
      holding [v, ov, iv] (setItem ov iv v)
      release [v, ov, iv] []))
    (hs : swapsWithSole [.Subscript o i tpos] e pos.line X.env = pure false) (hw : swappedStores [.Subscript o i tpos] e X.env = pure none) (h1 : (assignEach [.Subscript o i tpos] X.env).map (·.2) = [assign (.Subscript o i tpos) X.env]) :
    PS X (.Assign [.Subscript o i tpos] e pos) (liftS X.w X.K W (wpS Γ fs (.asub a b c))) :=
  psW (ps_asg he (pg_sub ho hi (set_any hd) ha) hs hw h1) fun D σ H ⟨σd, S, k, rv, rs, en, hw⟩ => by
    simp only [wpS] at hw
    refine ⟨σd, S, k.E σd, _, rv, rs, en.wr rs rv, hw, fun d S1 v H1 h1 rd rs1 e1 => ?_⟩
    have rv1 := rv.keep (e1.tups rs)
    refine ⟨σd, S1, k.E σd, _, rv1, rs1, (en.keep e1).wr rs1 rv1, h1, fun x S2 xv H2 h2 rdx rs2 e2 => ?_⟩
    have rv2 := rv1.keep (e2.tups rs1)
    refine ⟨σd, S2, k.E σd, _, rv2, rs2, (en.keep (e1.trans e2)).wr rs2 rv2, h2, fun y S3 yv H3 h3 rdy rs3 e3 => ?_⟩
    refine ⟨x, y, d, S3, _, rdx.keep (e3.tups rs2), rdy, rd.keep ((e2.trans e3).tups rs1), rs3, h3, fun S4 H4 h4 rs4 e4 => ?_⟩
    have e14 := ((e1.trans e2).trans e3).trans e4
    exact en.nx _ _ _ _ h4 (rv.keep (e14.tups rs)) rs4 e14
end
end TA
set_option Elab.async false
set_option linter.all false
set_option maxRecDepth 100000
set_option maxHeartbeats 2000000
/-! TA10a: try with several clauses, with names and without. -/
namespace TA
open PySem PySem.Spec L2
/-- the slot of a clause's name -/
def setO (oi : Option Nat) (σ : L2.St) (v : Option V) : L2.St := match oi with
  | some i => σ.set i v
  | none => σ
def endO (oi : Option Nat) (D : Ends) : Ends := { nx := fun σ' H' => D.nx (setO oi σ' none) H', rt := D.rt, bk := fun σ' H' => D.bk (setO oi σ' none) H', ct := fun σ' H' => D.ct (setO oi σ' none) H' }
/-- what the clauses wish of an exception of the body, one after the other -/
def wGen (K : PySem.W.Frag) (Wout : WX) (D : Ends) : List (Value × Option Nat × (Addr → Value → Option Addr → TS)) → WX
  | [] => Wout
  | (c, oi, ts) :: r => fun cls d σ H => ∃ b, PySem.W.exmOne K cls c = some b ∧ (b = true → ∀ a, H a = none → ts a cls d (endO oi D) (setO oi σ (some (.ref a))) H) ∧ (b = false → wGen K Wout D r cls d σ H)
inductive HdsG (X : Cx) : List ExceptHandler → List (Value × Option Nat × (Addr → Value → Option Addr → TS)) → Prop
  | nil : HdsG X [] []
  | cons {x : Str} {c : Value} {ts : Addr → Value → Option Addr → TS} {b₀ : Stmt} {suite : List Stmt} {np pos' : Pos} {hds : List ExceptHandler} {l : List (Value × Option Nat × (Addr → Value → Option Addr → TS))} (hc : Names X x c)
      (hsu : ∀ (a : Addr) (oe : Obj) (cls : Value) (d : Option Addr) (pn : List (Addr × Obj)), Zc cls d oe → (∃ vs, oe.data = .fields vs) → PSs (X.suite a ((a, oe) :: pn)) (b₀ :: suite) (ts a cls d)) (r : HdsG X hds l) :
      HdsG X (.ExceptHandler (some (.Name x np)) none (b₀ :: suite) pos' :: hds) ((c, none, ts) :: l)
  | as {x n : Str} {i : Nat} {c : Value} {ts : Addr → Value → Option Addr → TS} {b₀ : Stmt} {suite : List Stmt} {np pos' : Pos} {hds : List ExceptHandler} {l : List (Value × Option Nat × (Addr → Value → Option Addr → TS))} (hi : X.N[i]? = some n) (hln : X.env.kindOf n = some .local) (hc : Names X x c)
      (hsu : ∀ (a : Addr) (oe : Obj) (cls : Value) (d : Option Addr) (pn : List (Addr × Obj)), Zc cls d oe → (∃ vs, oe.data = .fields vs) → PSs (X.suite a ((a, oe) :: pn)) (b₀ :: suite) (ts a cls d)) (r : HdsG X hds l) :
      HdsG X (.ExceptHandler (some (.Name x np)) (some n) (b₀ :: suite) pos' :: hds) ((c, some i, ts) :: l)
section
variable {X : Cx} {body : List Stmt} {h₀ : ExceptHandler} {hds : List ExceptHandler} {l : List (Value × Option Nat × (Addr → Value → Option Addr → TS))} {pos : Pos} {tb : WX → TS} {Wout : WX}
theorem ps_try_gen (hN : X.N.Nodup) (hs : X.stack = X.env :: X.outer) (hf : X.env.frame = some X.env.locals) (tk : Takes X Wout)
    (hb : ∀ (W : WX) (pn : List (Addr × Obj)) (xe : Value → Shared → Prop), Takes (X.tr pn xe) W → PassesOwn (model X.prog X.w) X.A X.env xe → PSs (X.tr pn xe) body (tb W))
    (hh : HdsG X (h₀ :: hds) l) : PS X (.Try body (h₀ :: hds) [] [] pos) (fun D σ H => tb (wGen X.K Wout D l) D σ H) := by
  refine ⟨fun pins s σ H D I h => ?_⟩
  have ok := I.ok
  have hfr : X.A.frames = some (X.env :: X.outer) := by rw [ok.frames, hs]
  refine wpAny_Try_except ?_
  refine wpAny_mono ((hb (wGen X.K Wout D l) (X.pn ++ pins) (fun e s₁ => wpAny (model X.prog X.w) X.A (noteFrame e X.env) (fun _ s₂ => wpAny (model X.prog X.w) X.A (setFlight e none) (fun _ s₃ =>
    wpAny (model X.prog X.w) X.A (handleBy e X.env (h₀ :: hds)) (SP X pins D) X.xe s₃) X.xe s₂) X.xe s₁) (fun u s' xx => ?_) PassesOwn.looking).run [] s σ H D (I.toTry _) h) (fun f s1 hsp => ?_) (fun e s1 he => he)
  · -- the catch
    obtain ⟨a, B, sI, pins', σ', H', cls, d, rfl, J', nb, up, sky, na, os, ag, w⟩ := xx
    have J : Inv X pins σ' H' sI := J'.ofTry ok
    have sky' : Sky B (X.env :: X.outer) a (Zc cls d) X.env.locals s'.heap := by rw [← hs]; exact sky
    show wpAny (model X.prog X.w) X.A (noteFrame (.ref a) X.env) _ _ _
    refine Sky.land Zc.steady hfr hf sky' fun h3 fl3 up3 => ?_
    have J3 : Inv X pins σ' H' { s' with heap := h3 } := J.landed nb fl3.1 (up.trans up3) os ag
    obtain ⟨oe3, vs3, he3, hz3, hd3⟩ := fl3.there
    have notFr : ∀ {h : Heap} {o : Obj} {vs : Array Value}, h.FunFrames B (X.env :: X.outer) → h.get? a = some o → o.data = .fields vs → a ∉ frs (X.env :: X.outer) := fun {h o vs} ff e dd hm => by
      obtain ⟨_, o', e', hnf⟩ := ff.mem hm
      rw [e] at e'; cases e'
      exact hnf _ dd
    have nfr := notFr fl3.2.2.1 he3 hd3
    have nL : a ≠ X.env.locals := fun z => nfr (List.mem_filterMap.mpr ⟨X.env, List.mem_cons_self, by rw [hf, z]⟩)
    have nF : a ∉ X.fs := fun hm => by
      obtain ⟨e, he, q⟩ := List.mem_filterMap.mp hm
      exact nfr (List.mem_filterMap.mpr ⟨e, List.mem_cons_of_mem _ he, q⟩)
    have S3 := J3.suite he3 hd3 na nL nF
    have go : ∀ {hds' : List ExceptHandler} {l' : List (Value × Option Nat × (Addr → Value → Option Addr → TS))}, HdsG X hds' l' → wGen X.K Wout D l' cls d σ' H' →
        wpAny (model X.prog X.w) X.A (handleBy (.ref a) X.env hds') (SP X pins D) X.xe { s' with heap := h3 } := by
      intro hds' l' hk
      induction hk with
      | nil =>
        intro w
        refine wpAny_handleBy_nil ?_
        obtain ⟨k1, k2, k3, oe, vs, T, oT, ts', he, hz, hd, h1, hr⟩ := id fl3
        unfold PySem.passOn
        refine wpAny_bind (wpAny_field he hd h1 ?_)
        rw [if_neg (show ¬ ((Value.ref T == Value.none) = true) from by simp)]
        have fin : wpAny (model X.prog X.w) X.A (setFlight (.ref a) X.env.frame) (fun _ s4 => wpAny (model X.prog X.w) X.A (throw (.ref a) : Sem Flow) (SP X pins D) X.xe s4) X.xe { s' with heap := h3 } := by
          rw [hf]
          refine HandSPX.setFlight_upZ fl3 fun h4 hh4 up4 => wpAny_throw (tk _ _ ?_)
          exact ⟨a, B, sI, pins, σ', H', cls, d, rfl, J, nb, (up.trans up3).trans up4, .inr (.inr (by rw [hs]; exact hh4)), na, os, ag, w⟩
        first
          | exact wpAny_bind (wpAny_pure (wpAny_bind fin))
          | exact wpAny_bind fin
      | @cons x c ts b₀ suite np pos' hds2 l2 hc hsu r ih =>
        intro w
        obtain ⟨b, hb1, hyes, hno⟩ := w
        refine wpAny_handleBy_cons (codeAny_handlers_test ?_) (by intro q; cases q)
        have LT : PySem.W.Looks (model X.prog X.w) h3 (typeOf (.ref a)) cls := fun A Q E s k q => wpAny_typeOf_ref (k _ _ he3) (by rw [hz3.1]; exact q)
        have LM := PySem.W.exm_one (M := model X.prog X.w) (J3.kIn) LT hb1
        have test : ∀ {Q : Value → Shared → Prop} {E : Value → Shared → Prop}, Q c { s' with heap := h3 } → wpAny (model X.prog X.w) (X.A.mark (some (.ref a))) (eval (.Name x np) X.env) Q E { s' with heap := h3 } := fun {Q E} q => by
          obtain ⟨hg, hdbg, hm | ⟨hm, hv, hnn⟩⟩ := hc
          · exact ld_glob (X := X.suite a ((a, oe3) :: (X.pn ++ pins))) S3 hg hm q hdbg
          · exact ld_blt (X := X.suite a ((a, oe3) :: (X.pn ++ pins))) S3 hg hm hv q hnn hdbg
        refine test (LM.here ?_)
        cases b with
        | true =>
          refine codeAny_handlers_suite ?_
          refine HandSPX.lands_againZ fl3 fun h4 fl4 up4 => ?_
          have J4 : Inv X pins σ' H' { s' with heap := h4 } := J.landed nb fl4.1 ((up.trans up3).trans up4) os ag
          obtain ⟨oe4, vs4, he4, hz4, hd4⟩ := fl4.there
          have S4 := J4.suite he4 hd4 na nL nF
          refine wpAny_mono ((hsu a oe4 cls d (X.pn ++ pins) hz4 ⟨_, hd4⟩).run [] _ _ H' _ S4 (hyes rfl a na)) (fun f s6 hsp => ?_) (fun _ _ z => False.elim z)
          cases f with
          | next =>
            obtain ⟨σ6, H6, S6, q6⟩ := hsp
            exact ⟨_, _, S6.unsuite ok, q6⟩
          | brk =>
            obtain ⟨σ6, H6, S6, q6⟩ := hsp
            exact ⟨_, _, S6.unsuite ok, q6⟩
          | cont =>
            obtain ⟨σ6, H6, S6, q6⟩ := hsp
            exact ⟨_, _, S6.unsuite ok, q6⟩
          | ret u =>
            obtain ⟨v6, σ6, H6, S6, r6, q6⟩ := hsp
            exact ⟨_, _, _, S6.unsuite ok, r6, q6⟩
        | false =>
          show wpAny _ X.A (handleBy (.ref a) X.env hds2) _ _ _
          exact ih (hno rfl)
      | @as x n i c ts b₀ suite np pos' hds2 l2 hi hln hc hsu r ih =>
        intro w
        obtain ⟨b, hb1, hyes, hno⟩ := w
        refine wpAny_handleBy_cons (codeAny_handlers_test ?_) (by intro q; cases q)
        have LT : PySem.W.Looks (model X.prog X.w) h3 (typeOf (.ref a)) cls := fun A Q E s k q => wpAny_typeOf_ref (k _ _ he3) (by rw [hz3.1]; exact q)
        have LM := PySem.W.exm_one (M := model X.prog X.w) (J3.kIn) LT hb1
        have test : ∀ {Q : Value → Shared → Prop} {E : Value → Shared → Prop}, Q c { s' with heap := h3 } → wpAny (model X.prog X.w) (X.A.mark (some (.ref a))) (eval (.Name x np) X.env) Q E { s' with heap := h3 } := fun {Q E} q => by
          obtain ⟨hg, hdbg, hm | ⟨hm, hv, hnn⟩⟩ := hc
          · exact ld_glob (X := X.suite a ((a, oe3) :: (X.pn ++ pins))) S3 hg hm q hdbg
          · exact ld_blt (X := X.suite a ((a, oe3) :: (X.pn ++ pins))) S3 hg hm hv q hnn hdbg
        have hloc : Loc X.env.scope n := .inl hln
        refine test (LM.here ?_)
        cases b with
        | true =>
          refine codeAny_handlers_suite_as ?_
          refine HandSPX.lands_againZ fl3 fun h4 fl4 up4 => ?_
          have J4 : Inv X pins σ' H' { s' with heap := h4 } := J.landed nb fl4.1 ((up.trans up3).trans up4) os ag
          obtain ⟨oe4, vs4, he4, hz4, hd4⟩ := fl4.there
          have S4 := J4.suite he4 hd4 na nL nF
          refine store_ok (X := X.suite a ((a, oe4) :: (X.pn ++ pins))) (v := .ref a) S4 hN hi hloc rfl (fun s5 S5 => ?_) (.inr hln)
          refine wpAny_mono ((hsu a oe4 cls d (X.pn ++ pins) hz4 ⟨_, hd4⟩).run [] s5 _ H' _ S5 (hyes rfl a na)) (fun f s6 hsp => ?_) (fun _ _ z => False.elim z)
          have end_ : ∀ {σ6 : L2.St} {H6 : Hp} {Q : Shared → Prop}, Inv (X.suite a ((a, oe4) :: (X.pn ++ pins))) [] σ6 H6 s6 → (∀ s7, Inv X pins (σ6.set i none) H6 s7 → Q s7) →
              wpAny (model X.prog X.w) X.A (do bindName X.env n .none; unbindBehindTheSuite X.env n pos') (fun _ s7 => Q s7) X.xe s6 := fun {σ6 H6 Q} S6 hq => gone_ok (S6.unsuite ok) hN hi hln hq
          cases f with
          | next =>
            obtain ⟨σ6, H6, S6, q6⟩ := hsp
            exact end_ S6 fun s7 J7 => ⟨_, _, J7, q6⟩
          | brk =>
            obtain ⟨σ6, H6, S6, q6⟩ := hsp
            exact end_ S6 fun s7 J7 => ⟨_, _, J7, q6⟩
          | cont =>
            obtain ⟨σ6, H6, S6, q6⟩ := hsp
            exact end_ S6 fun s7 J7 => ⟨_, _, J7, q6⟩
          | ret u =>
            obtain ⟨v6, σ6, H6, S6, r6, q6⟩ := hsp
            exact end_ S6 fun s7 J7 => ⟨_, _, _, J7, r6, q6⟩
        | false =>
          show wpAny _ X.A (handleBy (.ref a) X.env hds2) _ _ _
          exact ih (hno rfl)
    exact go hh w
  · cases f with
    | next =>
      obtain ⟨σ', H', J', q⟩ := hsp
      exact wpAny_execs_nil ⟨σ', H', J'.ofTry ok, q⟩
    | brk =>
      obtain ⟨σ', H', J', q⟩ := hsp
      exact ⟨σ', H', J'.ofTry ok, q⟩
    | cont =>
      obtain ⟨σ', H', J', q⟩ := hsp
      exact ⟨σ', H', J'.ofTry ok, q⟩
    | ret u =>
      obtain ⟨v, σ', H', J', r, q⟩ := hsp
      exact ⟨v, σ', H', J'.ofTry ok, r, q⟩
end
end TA
set_option Elab.async false
set_option linter.all false
set_option maxRecDepth 100000
set_option maxHeartbeats 2000000
/-! TA10b: a def __init__ of an own exception class that says super().__init__(..). -/
namespace PySem.W
open PySem PySem.Calls PyProof.Rows
section
variable {prog : Program} {w : World} {A : Around} {E : Value → Shared → Prop} {hh : Heap} {g : Array GenState} {d : Drawn} {tk : Nat} {os : OsState}
/-- the bound __init__ called -/
theorem ta_call_mw {B i newId : String} {bmB : List Value} (FB : ExcBaseFacts B newId i bmB) {u x t : Addr} {C N : Addr} {nm qn : Str} {bs bm : List Value} {hdct : Bool} {sn : List Str} {sub : List Value} {ab : Bool} {col : Option Bool} {dd : Option Addr} {k0 k1 k2 k3 k5 : Option Value} {rest : List Value} {Q : Value → Shared → Prop}
    (hC : hh.get? C = some (excClassObj nm qn C N bs bm hdct sn sub ab col dd k0 k1 k2 k3 k5 newId)) (hu : hh.get? u = some (kxs_mw i x)) (he : hh.get? x = some (excRec (.ref C) t none .none .none (.bool false))) (hz : rest.length ≤ sizeLine)
    (fin : ∀ h', (∀ b o, b ≠ x → hh.get? b = some o → h'.get? b = some o) → h'.get? x = some (excRec (.ref C) hh.objs.size none .none .none (.bool false)) → Q .none ⟨h', g, d, tk, os⟩) :
    wpAny (model prog w) A (call (.ref u) rest) Q E ⟨hh, g, d, tk, os⟩ := by
  refine wpAny_call (codeAny_of_tree ?_)
  show wpAny _ A.in1 (callAny (.ref u) ⟨rest, []⟩) _ _ _
  simp only [callAny]
  refine wpAny_bind (wpAny_load hu ?_)
  simp only [kxs_mw, show (Value.type "method-wrapper" == Value.type "method" || Value.type "method-wrapper" == Value.type "builtin_function_or_method" || Value.type "method-wrapper" == Value.type "method-wrapper") = true by decide, if_true]
  refine KFB.if_so (by decide) ?_
  refine wpAny_bind (check_bound_init FB.toExcCallFacts hC he rfl ?_)
  refine wpAny_bind (wpAny_pure (wpAny_pure ?_))
  refine ⟨plainId_quiet FB.init.plain _, codeAny_builtin FB.initEntry ?_⟩
  exact exc_init_tree (cls := .ref C) (t0 := t) (dv := none) (c2 := .none) (c3 := .none) (b4 := .bool false) he hz fun h' k e' _ => fin h' k e'
end
end PySem.W
namespace TA
open PySem PySem.Spec L2
theorem lookup_nodup {α : Type} {x : Str} {v : α} : ∀ {l : List (Str × α)}, (l.map (·.1)).Nodup → (x, v) ∈ l → l.lookup x = some v
  | [], _, h => by cases h
  | (y, u) :: r, nd, h => by
    rw [List.map_cons, List.nodup_cons] at nd
    rcases List.mem_cons.mp h with e | h
    · cases e; simp [List.lookup]
    · have ne : x ≠ y := fun z => nd.1 (by rw [← z]; exact List.mem_map.mpr ⟨(x, v), h, rfl⟩)
      have : (x == y) = false := by simpa using ne
      simp only [List.lookup, this]
      exact lookup_nodup nd.2 h
theorem zip_fst {α β : Type} : ∀ {xs : List α} {ys : List β}, xs.length = ys.length → (xs.zip ys).map (·.1) = xs
  | [], _, _ => by simp
  | x :: r, y :: q, h => by simp [zip_fst (xs := r) (ys := q) (by simpa using h)]
theorem lookup_binds {ps : List Str} {us : List Value} {i : Nat} {x : Str} {u : Value} (nd : ps.Nodup) (hl : ps.length = us.length) (h1 : ps[i]? = some x) (h2 : us[i]? = some u) : (ps.zip us).reverse.lookup x = some u := by
  refine lookup_nodup ?_ ?_
  · rw [List.map_reverse, zip_fst hl]; exact (List.reverse_perm ps).nodup_iff.mpr nd
  · rw [List.mem_reverse]
    refine List.mem_of_getElem? (i := i) ?_
    rw [List.getElem?_zip_eq_some]
    exact ⟨h1, h2⟩
/-- the context of such a def's body -/
def cxS (CX : CXT) (P : Program) (w : World) (K : PySem.W.Frag) (mg : Str → Option Value) (base : Heap) (N : List Str) (qual : Str) (scope : Scope) (f : Addr) (cd : Value) (cc : Addr) (A : Around) (outer : List PySem.Env) (s : Shared) (H : Hp) (E : XK) : Cx where
  prog := P
  w := w
  K := K
  mg := mg
  base := base
  A := A.deeper (PySem.W.ksEnv qual scope s.heap.objs.size f cd cc)
  N := N
  s_0 := s
  H_0 := H
  env := PySem.W.ksEnv qual scope s.heap.objs.size f cd cc
  outer := outer
  stack := PySem.W.ksEnv qual scope s.heap.objs.size f cd cc :: outer
  ex := []
  calm := true
  fn := fun y => decide (y ≠ "__class__")
  pn := []
  xe := fun e s' => wpAny (model P w) (A.deeper (PySem.W.ksEnv qual scope s.heap.objs.size f cd cc)) (leaving (PySem.W.ksEnv qual scope s.heap.objs.size f cd cc) e) (fun _ s'' => CX outer H s E e s'') (fun e' s'' => CX outer H s E e' s'') s'
/-- the scope of such a def -/
structure SupScope (ps : List Str) (sc : Scope) : Prop where
  kind : sc.kind = .function
  co : sc.isCoroutine = false
  gen : sc.isGenerator = false
  nd : ps.Nodup
  par : ∀ x ∈ ps, sc.names.lookup x = some .local
  sup : sc.names.lookup ("super" : Str) = some .globalImplicit
  cls : sc.names.lookup ("__class__" : Str) = some .free
  nocell : ∀ x ∈ sc.names, x.2 ≠ .cell
  free : ∀ x, sc.names.lookup x = some .free → x = "__class__"
theorem inv_sup {CX : CXT} {P : Program} {w : World} {K : PySem.W.Frag} {mg : Str → Option Value} {base : Heap} {ps : List Str} {qual : Str} {scope : Scope} {f : Addr} {cd : Value} {cc : Addr} {A : Around} {outer : List PySem.Env} {s : Shared} {H : Hp} {E : XK} {us : List Value} {vs : List V} {h₀ : Heap} {tk : Nat} {cl : Value} {cld : Option Addr} {csl : Array (Option Value)} {D : Addr}
    (S : SupScope ps scope) (hd : A.handled = none) (e0 : Env0 P w K mg base A outer s H) (hl : vs.length = ps.length) (r : Vals vs us) (hcell : K.lookup cc = some ⟨cl, cld, .cell (some (.ref D)), csl⟩)
    (hns : h₀.Ns s.heap.objs.size (fun x => (ps.zip us).reverse.lookup x)) (hk : ∀ b o, s.heap.get? b = some o → h₀.get? b = some o) :
    Inv (cxS CX P w K mg base ps qual scope f cd cc A outer s H E) [] (L2.start ps vs) H { s with heap := h₀, toks := tk } := by
  have noA : ∀ b : Addr, b ∉ (cxS CX P w K mg base ps qual scope f cd cc A outer s H E).ex := fun b z => absurd (show b ∈ ([] : List Addr) from z) (by simp)
  have cl1 : ∀ {x c}, (cxS CX P w K mg base ps qual scope f cd cc A outer s H E).env.cells.lookup x = some c → x = "__class__" ∧ c = cc := fun {x c} e => by
    have e' : List.lookup x [(("__class__" : Str), cc)] = some c := e
    by_cases hx : x = ("__class__" : Str)
    · subst hx; simp [List.lookup] at e'; exact ⟨rfl, e'.symm⟩
    · have : (x == ("__class__" : Str)) = false := by simpa using hx
      simp [List.lookup, this] at e'
  have cbase : base.get? cc = some ⟨cl, cld, .cell (some (.ref D)), csl⟩ := e0.mod.kin _ _ hcell
  have cs := e0.bs _ _ cbase
  refine ⟨⟨e0.mod, S.kind, rfl, rfl, Nat.le_refl _, fun y z c h1 h2 => (cl1 h1).1.trans (cl1 h2).1.symm, fun y hy => ?_, fun y c hy h => ?_, fun _ => hd, Around.frames_deeper e0.frames, .inr ⟨rfl, rfl⟩, fun b z => absurd z (noA b), e0.bs, e0.bsz, fun b _ _ => noA b, fun b z => absurd z (noA b), e0.funs, e0.frf⟩,
    rfl, e0.bare, Un.kept hk, ⟨_, hns, fun i y v h1 h2 h3 => ?_⟩, fun y c h => ?_, e0.hok.fresh (Nat.le_refl _), fun y c h => ?_, fun p hp => absurd (show p ∈ ([] : List (Addr × Obj)) from hp) (by simp), e0.hok.kept hk, ?_⟩
  · have hy : scope.names.lookup y = some .cell ∨ scope.names.lookup y = some .free := hy
    rcases hy with hy | hy
    · exact absurd rfl (S.nocell _ (PySem.mem_of_lookup hy))
    · have := S.free y hy
      subst this
      exact ⟨cc, by show List.lookup ("__class__" : Str) [(("__class__" : Str), cc)] = _; simp [List.lookup]⟩
  · have hy : decide (y ≠ "__class__") = true := hy
    exact absurd (cl1 h).1 (of_decide_eq_true hy)
  · have hi : i < vs.length := by
      unfold L2.start at h2
      by_cases hi : i < vs.length
      · exact hi
      · rw [List.getElem?_append_right (by simpa using hi)] at h2
        rw [List.getElem?_replicate] at h2
        split at h2 <;> cases h2
    have ha : vs[i]? = some v := by
      unfold L2.start at h2
      rw [List.getElem?_append_left (by simpa using hi), List.getElem?_map] at h2
      cases e : vs[i]? with
      | none => rw [e] at h2; cases h2
      | some a => rw [e] at h2; cases h2; rfl
    obtain ⟨u, hu, rv⟩ := r.get ha
    exact ⟨u, rv, .inl ⟨S.par y (List.mem_of_getElem? h1), lookup_binds S.nd (by rw [← hl]; exact r.length) h1 hu⟩⟩
  · obtain ⟨rfl, rfl⟩ := cl1 h
    exact ⟨some (.ref D), _, hk _ _ cs.1, rfl⟩
  · obtain ⟨rfl, rfl⟩ := cl1 h
    exact cs.2
  · unfold L2.start
    show _ = ps.length
    rw [List.length_append, List.length_map, List.length_replicate]
    omega
end TA
namespace TA
open PySem PySem.Spec L2
/-- what K tells of a class that is made so: D says super().__init__ in its own __init__ -/
structure ClsS (K : PySem.W.Frag) (C D : Addr) : Prop where
  oex : OexC K C
  mro : PySem.W.mroIn K C (.ref D) = some true
  sup : PySem.W.ks_superIn K C D "__init__" = some (some (.builtin "ValueError.__init__"))
  sub : PySem.W.subIn K (.ref C) (.type "ValueError") = some true
/-- what K tells of the def -/
structure DefS (P : Program) (K : PySem.W.Frag) (mg : Str → Option Value) (f cc D : Addr) (fd : FuncData) (ps : List Str) (body : List Stmt) : Prop where
  ex : ∃ (oc : Value) (od : Option Addr) (osl : Array (Option Value)) (name qual : Str) (params : Arguments) (scope : Scope) (dV kV doc pm : Value) (an : Option Addr) (cda : Addr) (ct : Value) (ar : Arg) (ocl : Value) (odl : Option Addr) (vs : Array Value) (oslc : Array (Option Value)) (file : Str) (tf : Tok)
    (cl : Value) (cld : Option Addr) (csl : Array (Option Value)) (cdD : ClassData),
    fd = PySem.W.ksFn name qual params body scope dV kV doc pm an (.ref cda) ct cc ∧ K.lookup f = some ⟨oc, od, .func fd, osl⟩ ∧ PySem.W.codeIn K (.ref cda) qual = true ∧ SupScope ps scope ∧ (params.posonlyargs ++ params.args).head? = some ar ∧ ps[0]? = some ar.arg ∧
    K.lookup cda = some ⟨ocl, odl, .fields vs, oslc⟩ ∧ vs[2]? = some (.str file tf) ∧ ((P.main.file : Str) == file) = true ∧ K.lookup cc = some ⟨cl, cld, .cell (some (.ref D)), csl⟩ ∧ PySem.W.clsIn K D = some cdD
  any : PySem.W.nsIn K cStatics "thirdparty.any" = some none
  top : (P.main.scope.names.lookup ("super" : Str)).isSome = false
  mg : mg "super" = none
theorem hm_of {K : PySem.W.Frag} {C : Addr} {cd : ClassData} {M : Model} {h : Heap} (X : K.In h) (hc : PySem.W.clsIn K C = some cd) : PySem.W.Looks M h (mroOf (.ref C)) cd.mro :=
  fun A Q E s k q => wpAny_bind ((PySem.W.looks_clsIn X hc) A _ E s k (wpAny_pure q))
def stSup (args : List Expr) (p0 p1 p2 p3 p4 : Pos) : Stmt := .Expr (.Call (.Attribute (.Call (.Name "super" p0) [] [] p1) "__init__" p2) args [] p3) p4
theorem fn_sup {CX : CXT} {P : Program} {w : World} {K : PySem.W.Frag} {mg : Str → Option Value} {base : Heap} {k : Nat} {f cc D : Addr} {fd : FuncData} {ps : List Str} {e : Expr} {es : List Expr} {rest : List Stmt} {p0 p1 p2 p3 p4 : Pos} {sp : Sp} {pl : PySem.Env → Sem Bool}
    (DS : DefS P K mg f cc D fd ps (stSup (e :: es) p0 p1 p2 p3 p4 :: rest)) (len : ∀ vs H Q E, sp vs H Q E → vs.length = ps.length)
    (he : ∀ env, starEach (e :: es) env = (false, eval e env) :: starEach es env) (hplain : ∀ env, (backTo p3 (starEach es env)).any (·.1) = false)
    (hev : ∀ env, eval (.Call (.Attribute (.Call (.Name "super" p0) [] [] p1) "__init__" p2) (e :: es) [] p3) env = (do
      let ov ← attributeBase (.Call (.Name "super" p0) [] [] p1) "__init__" env (eval (.Call (.Name "super" p0) [] [] p1) env)
      standAt p2.atName
      let (f, first) ← holding [ov] (getMethod ov "__init__" (pl env))
      callWith p3 f first (backTo p3 (starEach (e :: es) env)) []))
    (hsw : ∀ env, swapsWith (.Call (.Attribute (.Call (.Name "super" p0) [] [] p1) "__init__" p2) (e :: es) [] p3) none p4.line env = pure false)
    (hbody : ∀ (qual : Str) (scope : Scope) (cda : Value) (A : Around) (outer : List PySem.Env) (s : Shared) (H : Hp) (vs : List V) (Q : VK) (E : XK), SupScope ps scope → sp vs H Q E →
      ∃ (a C : Addr) (ws : List V) (ta : L2.TA) (t : TS), vs = .ref a :: ws ∧ H a = some (exo a C none) ∧ ClsS K C D ∧ PA (cxS CX P w K mg base ps qual scope f cda cc A outer s H E) (e :: es) ta ∧ PSs (cxS CX P w K mg base ps qual scope f cda cc A outer s H E) rest t ∧
        ta (L2.start ps vs) H fun us H' => us.length ≤ 1000 ∧ H' a = some (exo a C none) ∧ t { nx := fun _ H' => Q .non H', rt := Q } (L2.start ps vs) H') :
    FnOk P w K mg base CX (k + 1) f fd ps sp := by
  obtain ⟨oc, od, osl, name, qual, params, scope, dV, kV, doc, pm, an, cda, ct, ar, ocl, odl, cvs, oslc, file, tf, cl, cld, csl, cdD, rfl, lk, hcd, S, har, hps0, lcode, hfl, hfile, lcell, lD⟩ := DS.ex
  refine ⟨len, fun A outer s H args us vs Q E hr e0 hb r hsp => ?_⟩
  have hl := len _ _ _ _ hsp
  have KX : K.In s.heap := e0.mod.kin.keeps fun b o e => (e0.bs b o e).1
  have lim : s.heap.NoLimit := e0.mod.nolimit.keeps fun b o e => (e0.bs b o e).1
  obtain ⟨a, C, ws, ta, t, rfl, ea, CS, hpa, hrest, ht⟩ := hbody qual scope (.ref cda) A outer s H vs Q E S hsp
  have hloc : ∀ x ∈ ps.zip us, scope.names.lookup x.1 = some .local := fun ⟨n, v⟩ hy => S.par n (List.of_mem_zip hy).1
  refine ks_codeAny_call_defAt (binds := ps.zip us) (body := stSup (e :: es) p0 p1 p2 p3 p4 :: rest) hr.depth (KX _ _ lk) rfl lim (PySem.W.codeRec_of KX hcd) rfl hb S.nocell hloc (fun h₀ hns hk => ?_) S.co S.gen S.kind
  have I := inv_sup (CX := CX) (P := P) (w := w) (E := E) (A := A) (f := f) (cd := .ref cda) (qual := qual) (tk := s.toks + (ps.zip us).length) S hr.hd e0 hl r lcell hns hk
  obtain ⟨mb, hbns, hbv⟩ := I.ok.mod.blt
  have Kk : ∀ {b o}, K.lookup b = some o → h₀.get? b = some o := fun {b o} e => hk _ _ (KX _ _ e)
  obtain ⟨oD, hD1, hD2⟩ : ∃ oD, h₀.get? D = some oD ∧ oD.data = .cls cdD := by
    unfold PySem.W.clsIn at lD
    split at lD
    · rename_i c d cd' sl ho
      cases lD
      exact ⟨_, Kk ho, rfl⟩
    · cases lD
  obtain ⟨t1, hx⟩ := exo_at I.hok ea
  obtain ⟨nm, qn, N, bs, bm, sn, sub, ab, col, dd, k0, k1, k2, k3, k5, hC, hbm⟩ := CS.oex.cls
  have hu0 : ∃ u0, us[0]? = some u0 ∧ RelV (.ref a) u0 := r.get (by simp)
  obtain ⟨u0, hu0, ru0⟩ := hu0
  obtain rfl : u0 = .ref a := ru0
  have hself : (ps.zip us).reverse.lookup ar.arg = some (.ref a) := lookup_binds S.nd (by rw [← hl]; exact r.length) hps0 hu0
  have hka : scope.names.lookup ar.arg = some .local := S.par _ (List.mem_of_getElem? hps0)
  refine ks_wpAt_execs_cons (ks_wpAt_Expr_any (ks_wpAt_MethodCall ?_ (hev _)) I.quiet (hsw _))
  refine ks_wpAt_super_base (env := PySem.W.ksEnv qual scope s.heap.objs.size f (.ref cda) cc) (show scope.names.lookup ("super" : Str) = _ from S.sup) (show scope.names.lookup ("__class__" : Str) = _ from S.cls) (by decide) rfl (Kk lk) rfl har rfl (Kk lcode) rfl hfl hfile DS.top ?_
  refine PySem.W.ks_loadName_global S.kind (show scope.names.lookup ("super" : Str) = _ from S.sup) (PySem.Calls.loadGlobal_builtin (env := PySem.W.ksEnv qual scope s.heap.objs.size f (.ref cda) cc) (mg := mg) (mb := mb) (I.ok.mod.glob.keeps I.bk) DS.mg (hbns.keeps I.bk) ((hbv _ (by decide)).trans (by first | rfl | kernel_rfl)) ⟨rfl, ?_⟩)
  refine wpAny_loadName_free S.kind (show scope.names.lookup ("__class__" : Str) = _ from S.cls) rfl ⟨_, Kk lcell, rfl⟩ ?_
  refine wpAny_loadName_local S.kind (show scope.names.lookup ar.arg = _ from hka) hns hself ?_
  refine ks_wpAny_isType_cls hD1 hD2 ⟨rfl, ?_⟩
  refine ks_wpAny_call_super hD1 hD2 hx rfl (fun c z => nomatch z) (PySem.W.looks_mroIn (I.kIn) CS.mro) (fun h1 so k1 => ?_)
  have I1 := I.kept (t' := s.toks + (ps.zip us).length) k1
  have ic1 : PySem.W.InstAt h1 a ({ cls := .ref C, dict := none, data := .fields #[.ref t1, .none, .none, .none, .bool false, .none] } : Obj) C none := ⟨k1 _ _ hx, rfl, rfl, trivial⟩
  obtain ⟨cdC, hcC⟩ : ∃ cdC, PySem.W.clsIn K C = some cdC := by
    cases hc : PySem.W.clsIn K C with
    | none => have := CS.sup; unfold PySem.W.ks_superIn at this; rw [hc] at this; cases this
    | some cd => exact ⟨cd, rfl⟩
  have hsup : PySem.W.alongIn K "__init__" ((cdC.mro.dropWhile (· != .ref D)).drop 1) = some (some (.builtin "ValueError.__init__")) := by
    have := CS.sup
    unfold PySem.W.ks_superIn at this
    rw [hcC] at this
    exact this
  have X1 : K.In h1 := I1.kIn
  refine PySem.W.kxs_getMethod PySem.W.kxs_ValueError so (PySem.W.looks_opaque X1 DS.any) (hm_of X1 hcC) rfl X1 hsup (ic1.type.andThen (PySem.W.looks_subIn X1 CS.sub)) (PySem.W.ks_ne X1 ic1 hcC) (by decide) ?_
  generalize hu : h1.objs.size = u
  have I2 := I1.kept (h' := h1.push (PySem.W.kxs_mw "ValueError.__init__" a)) (t' := s.toks + (ps.zip us).length + 1) (fun b o e => Heap.get?_push_of_some _ e)
  have hue : (h1.push (PySem.W.kxs_mw "ValueError.__init__" a)).get? u = some (PySem.W.kxs_mw "ValueError.__init__" a) := by rw [← hu]; exact Heap.get?_push_size _ rfl
  have I3 := I2.pins_of (pins' := [(u, PySem.W.kxs_mw "ValueError.__init__" a)]) (fun p hp => by
    have e : p = (u, PySem.W.kxs_mw "ValueError.__init__" a) := by simpa using hp
    subst e
    exact ⟨hue, I1.hok.fresh (Nat.le_of_eq hu), by rw [← hu]; exact Nat.ne_of_gt I1.lt, by rw [← hu]; exact I1.nofs (Nat.le_refl _), fun v z => nomatch z⟩)
  have run := thn (hpa.run p3 _ _ _ _ _ I3 ht) (Q' := fun vs' s3 => PySem.W.KxsAt "ValueError.__init__" u a s3.heap ∧ wpAny (model P w) (A.deeper (PySem.W.ksEnv qual scope s.heap.objs.size f (.ref cda) cc)) (call (.ref u) ([] ++ vs')) (fun _ s' => wpAt (model P w) (A.deeper (PySem.W.ksEnv qual scope s.heap.objs.size f (.ref cda) cc)) (.func (stSup (e :: es) p0 p1 p2 p3 p4 :: rest) (PySem.W.ksEnv qual scope s.heap.objs.size f (.ref cda) cc)) (execs rest (PySem.W.ksEnv qual scope s.heap.objs.size f (.ref cda) cc)) (fun f s' => CR CX outer P w H s Q E (.ok (.ret (match f with | .ret v => v | _ => .none))) s')
      (fun e s' => wpAny (model P w) (A.deeper (PySem.W.ksEnv qual scope s.heap.objs.size f (.ref cda) cc)) (leaving (PySem.W.ksEnv qual scope s.heap.objs.size f (.ref cda) cc) e) (fun _ s'' => CR CX outer P w H s Q E (.error e) s'') (fun e' s'' => CR CX outer P w H s Q E (.error e') s'') s') s') (cxS CX P w K mg base ps qual scope f (.ref cda) cc A outer s H E).xe s3) (fun vs' s3 ⟨vv, H3, I4, rv', hz, ea3, ht3⟩ => ?_)
  · refine PySem.W.kxs_callWith (i := "ValueError.__init__") (x := a) ?_ ?_
    · rw [he]
      show (false || (backTo p3 (starEach es _)).any (·.1)) = false
      rw [hplain]; rfl
    · rw [he] at run ⊢
      exact PySem.Calls.evalArgs_plain run
  · have hu3 := (I4.pin (u, PySem.W.kxs_mw "ValueError.__init__" a) (List.mem_append_right _ (by simp))).1
    refine ⟨hu3, ?_⟩
    obtain ⟨t3, hx3⟩ := exo_at I4.hok ea3
    obtain ⟨hh, g3, d3, tk3, os3⟩ := s3
    refine PySem.W.ta_call_mw F.excBase_ValueError (I4.kIn _ _ hC) hu3 hx3 (by rw [List.nil_append, ← Paired.length rv', sizeLine_eq]; omega) (fun h' kk e' => ?_)
    have J := I4.write (t' := tk3) (x := a) (e := a) (o := exo a C none) (by rw [ea3]; exact True.intro) (.inl rfl) kk ⟨_, e'⟩ (exo_ok e')
    have eu : upd H3 a (exo a C none) = H3 := by
      funext b
      by_cases hb : b = a
      · rw [hb, upd_same, ea3]
      · rw [upd_ne hb]
    rw [eu] at J
    refine wpAt_of_wpAny (wpAny_mono (hrest.run _ _ _ _ _ J ht3) (fun fl s' hs => ?_) fun e s' hs => hs)
    have fin : ∀ {σ' : L2.St} {H' : Hp} {v : V} {u : Value} {pins : List (Addr × Obj)}, L2.Inv (cxS CX P w K mg base ps qual scope f (.ref cda) cc A outer s H E) pins σ' H' s' → RelV v u → Q v H' → CE outer P w H s Q u s' :=
      fun {σ' H' v u pins} J rv q => ⟨v, H', J.os, J.bare, J.base, J.hok, rv, q⟩
    cases fl with
    | ret u =>
      obtain ⟨v, σ', H', J, rv, q⟩ := hs
      exact fin J rv q
    | next =>
      obtain ⟨σ', H', J, q⟩ := hs
      exact fin (v := V.non) (u := Value.none) J rfl q
    | brk =>
      obtain ⟨_, _, _, q⟩ := hs
      exact False.elim q
    | cont =>
      obtain ⟨_, _, _, q⟩ := hs
      exact False.elim q
end TA
set_option Elab.async false
set_option linter.all false
set_option maxRecDepth 100000
set_option maxHeartbeats 2000000
/-! TA10c: the errors' __init__, raise, lifted. -/
namespace TA
open PySem PySem.Spec L2
/-- what such an __init__ promises: the fields in the parameters' order -/
def spI (K : PySem.W.Frag) (D : Addr) (flds : List Str) : Sp := fun vs H Q _ => ∃ (a C : Addr) (ws : List V), vs = .ref a :: ws ∧ ws.length = flds.length ∧ H a = some (exo a C none) ∧ ClsS K C D ∧ (∀ f ∈ flds, PySem.W.findIn K (.ref C) f = some none) ∧
  ∀ dx, H dx = none → dx ≠ a → Q .non (upd (upd H dx (exd dx (flds.zip ws).reverse)) a (exo a C (some dx)))
theorem spI_len {K : PySem.W.Frag} {D : Addr} {flds : List Str} {self : Str} {vs : List V} {H : Hp} {Q : VK} {E : XK} (h : spI K D flds vs H Q E) : vs.length = (self :: flds).length := by
  obtain ⟨a, C, ws, rfl, hl, _⟩ := h
  simp [hl]
section
variable {CX : CXT} {P : Program} {w : World} {K : PySem.W.Frag} {mg : Str → Option Value} {base : Heap} {k : Nat} {f cc D : Addr} {fd : FuncData} {self f1 f2 : Str} {p0 p1 p2 p3 p4 q1 q2 q3 q4 q5 q6 q7 q8 q9 q10 : Pos}
theorem vis_sup {X : Cx} {ps : List Str} {sc : Scope} (S : SupScope ps sc) (e : X.env.scope = sc) {x : Str} (h : x ∈ ps) : Vis X.env.scope x := .inl (by rw [e]; exact S.par x h)
theorem hev_of {o : Expr} {name : Str} {apos pos : Pos} {args : List Expr} (hline : (apos.endLine == pos.line) = true) (hform : ∀ env, methodCallForm (args.length + ([] : List Keyword).length) (backTo pos (starEach args env)) (backToKw pos (keywordEach [] env)) = true) (env : PySem.Env) :
    eval (.Call (.Attribute o name apos) args [] pos) env = (do
      let ov ← attributeBase o name env (eval o env)
      standAt apos.atName
      let (f, first) ← holding [ov] (getMethod ov name (do return (← importBound o env).getD true))
      callWith pos f first (backTo pos (starEach args env)) []) := by
  have hpos : methodCallPos true o env apos pos = pure pos := by unfold methodCallPos; simp [hline]
  have hf := hform env
  rw [arm_eval_Call]
  unfold methodCall
  rw [hf, hpos]
  unfold calleeOf
  rfl
theorem init1 (hline : (p2.endLine == p3.line) = true) (DS : DefS P K mg f cc D fd [self, f1] [stSup [.Name f1 q1] p0 p1 p2 p3 p4, .Assign [.Attribute (.Name self q2) f1 q3] (.Name f1 q4) q5]) (hd1 : (self == ("__debug__" : Str)) = false) (hd2 : (f1 == ("__debug__" : Str)) = false) (hc1 : (self == ("__classdict__" : Str)) = false) (hc2 : (f1 == ("__classdict__" : Str)) = false) :
    FnOk P w K mg base CX (k + 1) f fd [self, f1] (spI K D [f1]) := by
  refine fn_sup (pl := _) (DS := DS) (fun vs H Q E h => spI_len h) (fun env => rfl) (fun env => rfl) (hev_of hline fun env => rfl) (fun env => by rfl) (fun qual scope cda A outer s H vs Q E S hsp => ?_)
  obtain ⟨a, C, ws, rfl, hl, ea, CS, hno, hq⟩ := hsp
  match ws, hl with
  | [y], _ =>
    have v1 : Vis (cxS CX P w K mg base [self, f1] qual scope f cda cc A outer s H E).env.scope self := .inl (S.par self (by simp))
    have v2 : Vis (cxS CX P w K mg base [self, f1] qual scope f cda cc A outer s H E).env.scope f1 := .inl (S.par f1 (by simp))
    refine ⟨a, C, [y], _, _, rfl, ea, CS, pa_cons (pe_var (i := 1) rfl v2 hd2 hc2) pa_nil rfl, pss_one (ps_ost (pe_var (i := 0) rfl v1 hd1 hc1) (pe_var (i := 1) rfl v2 hd2 hc2) (by rfl)), ?_⟩
    refine ⟨y, rfl, by simp, ea, y, rfl, .ref a, rfl, a, C, rfl, CS.oex, hno f1 (by simp), .inl ⟨ea, fun dx h1 h2 => ?_⟩⟩
    exact hq dx h1 h2
theorem init2 (hline : (p2.endLine == p3.line) = true) (DS : DefS P K mg f cc D fd [self, f1, f2] [stSup [.Name f1 q1, .Name f2 q6] p0 p1 p2 p3 p4, .Assign [.Attribute (.Name self q2) f1 q3] (.Name f1 q4) q5, .Assign [.Attribute (.Name self q7) f2 q8] (.Name f2 q9) q10])
    (hd1 : (self == ("__debug__" : Str)) = false) (hd2 : (f1 == ("__debug__" : Str)) = false) (hc1 : (self == ("__classdict__" : Str)) = false) (hc2 : (f1 == ("__classdict__" : Str)) = false) (hd3 : (f2 == ("__debug__" : Str)) = false) (hc3 : (f2 == ("__classdict__" : Str)) = false) :
    FnOk P w K mg base CX (k + 1) f fd [self, f1, f2] (spI K D [f1, f2]) := by
  refine fn_sup (pl := _) (DS := DS) (fun vs H Q E h => spI_len h) (fun env => rfl) (fun env => rfl) (hev_of hline fun env => rfl) (fun env => by rfl) (fun qual scope cda A outer s H vs Q E S hsp => ?_)
  obtain ⟨a, C, ws, rfl, hl, ea, CS, hno, hq⟩ := hsp
  match ws, hl with
  | [y, z], _ =>
    have v1 : Vis (cxS CX P w K mg base [self, f1, f2] qual scope f cda cc A outer s H E).env.scope self := .inl (S.par self (by simp))
    have v2 : Vis (cxS CX P w K mg base [self, f1, f2] qual scope f cda cc A outer s H E).env.scope f1 := .inl (S.par f1 (by simp))
    have v3 : Vis (cxS CX P w K mg base [self, f1, f2] qual scope f cda cc A outer s H E).env.scope f2 := .inl (S.par f2 (by simp))
    refine ⟨a, C, [y, z], _, _, rfl, ea, CS, pa_cons (pe_var (i := 1) rfl v2 hd2 hc2) (pa_cons (pe_var (i := 2) rfl v3 hd3 hc3) pa_nil rfl) rfl,
      pss_cons (ps_ost (pe_var (i := 0) rfl v1 hd1 hc1) (pe_var (i := 1) rfl v2 hd2 hc2) (by rfl)) (pss_one (ps_ost (pe_var (i := 0) rfl v1 hd1 hc1) (pe_var (i := 2) rfl v3 hd3 hc3) (by rfl))), ?_⟩
    refine ⟨y, rfl, z, rfl, by simp, ea, y, rfl, .ref a, rfl, a, C, rfl, CS.oex, hno f1 (by simp), .inl ⟨ea, fun dx h1 h2 => ?_⟩⟩
    refine ⟨z, rfl, .ref a, rfl, a, C, rfl, CS.oex, hno f2 (by simp), .inr ⟨dx, [(f1, y)], upd_same, by rw [upd_ne h2, upd_same], by simp, ?_⟩⟩
    have e : upd (upd (upd H dx (exd dx [(f1, y)])) a (exo a C (some dx))) dx (exd dx [(f2, z), (f1, y)]) = upd (upd H dx (exd dx ([f1, f2].zip [y, z]).reverse)) a (exo a C (some dx)) := by
      funext b
      by_cases hb : b = dx
      · subst hb; rw [upd_same, upd_ne h2, upd_same]; rfl
      · rw [upd_ne hb]
        by_cases ha : b = a
        · subst ha; rw [upd_same, upd_same]
        · rw [upd_ne ha, upd_ne ha, upd_ne hb, upd_ne hb]
    rw [e]
    exact hq dx h1 h2
end
/-- what is known of a class of errors -/
structure ErrC (X : Cx) (k : Nat) (c : Str) (flds : List Str) : Prop where
  glob : X.mg c = some (.ref (clA X.K c))
  known : KnownC X.K c
  ex : ∃ (fI cc D : Addr) (fd : FuncData) (self : Str), ClsS X.K (clA X.K c) D ∧ (∀ f ∈ flds, PySem.W.findIn X.K (.ref (clA X.K c)) f = some none) ∧ PySem.W.findIn X.K (.ref (clA X.K c)) "__init__" = some (some (.ref fI)) ∧ PySem.W.typeIn X.K (.ref fI) = some (.type "function") ∧
    Binds X.K fd (self :: flds) [] ∧ FnOk X.prog X.w X.K X.mg X.base (L2.CX X.prog X.w) k fI fd (self :: flds) (spI X.K D flds)
section
variable {X : Cx} {W : WX} {Γ : List DSp} {fs : List (Str × D)} {k : Nat} {c : Str} {flds : List Str} {pos pos' p : Pos}
theorem lookup_zip {K : PySem.W.Frag} {H : Hp} : ∀ {flds : List Str} {ds : List D} {vs : List V}, RDs K H ds vs → ∀ x y, (flds.zip ds).lookup x = some y → ∃ v, (flds.zip vs).lookup x = some v ∧ RD K H y v
  | [], _, _, _, x, y, h => by simp at h
  | g :: r, [], _, _, x, y, h => by simp at h
  | g :: r, d :: ds, vs, rds, x, y, h => by
    obtain ⟨v, us, rfl, h1, h2⟩ := rds.uncons
    simp only [List.zip_cons_cons, List.lookup_cons] at h ⊢
    cases q : x == g with
    | true => rw [q] at h; cases h; exact ⟨v, rfl, h1⟩
    | false => rw [q] at h; exact lookup_zip h2 x y h
theorem s_rse {e : Expr} {es : List Expr} {as : IEs} (hc : X.calm = true) (tk : Takes X W) (hg : Gl X c) (hdb : (c == ("__debug__" : Str)) = false) (R : ErrC X k c flds) (hr : Room (k + 1) X.A) (hlen : flds.length = es.length + 1) (nd : flds.Nodup) (hz : flds.length ≤ 1000)
    (hf : ∀ ds gs, fieldsOf c ds = some gs → gs = flds.zip ds) (ha : PA X (e :: es) (liftEs X.w X.K W (es.length + 1) (wpEs Γ fs as))) (he : starEach (e :: es) X.env = (false, eval e X.env) :: starEach es X.env) (hpl : (backTo pos' (starEach es X.env)).any (·.1) = false) :
    PS X (.Raise (some (.Call (.Name c p) (e :: es) [] pos')) none pos) (liftS X.w X.K W (wpS Γ fs (.rse c as))) := by
  obtain ⟨fI, cc, Dc, fd, self, CS, hno, iC, tI, hb, F⟩ := R.ex
  have hx : Passes (L2.CX X.prog X.w) X (fun _ _ _ => False) := passes_call (W := W) tk fun _ _ _ _ h => h.elim
  refine psW (ps_raise hc tk (pmk_oex CS.oex iC tI F hr hb .nil hx hg R.glob ha hdb he hpl)) fun DD σ H ⟨σd, S, k, rv, rs, en, hw⟩ => ?_
  simp only [wpS] at hw
  refine ⟨σd, S, k.E σd, _, rv, rs, en.wr rs rv, hw, fun ds S1 vs H1 h1 hl rds rs1 e1 => ?_⟩
  split at h1
  · rename_i gs hgs
    have hgs := hf _ _ hgs
    subst hgs
    refine ⟨by omega, fun a hna => ⟨a, clA X.K c, vs ++ [], rfl, by rw [List.append_nil]; omega, upd_same, CS, hno, fun dx hdx ne => ⟨rfl, dx, (flds.zip vs).reverse, upd_same, by rw [upd_ne ne, upd_same]; simp, ?_, ?_⟩⟩⟩
    · rw [upd_ne ne] at hdx; exact hdx
    · have hdx1 : H1 dx = none := by rw [upd_ne ne] at hdx; exact hdx
      have eH : upd (L2.del (upd (upd (upd H1 a (exo a (clA X.K c) none)) dx (exd dx (flds.zip (vs ++ [])).reverse)) a (exo a (clA X.K c) (some dx))) a) dx (.xd (flds.zip vs).reverse) = upd H1 dx (.xd (flds.zip vs).reverse) := by
        funext b
        by_cases hb : b = dx
        · subst hb; rw [upd_same, upd_same]
        · rw [upd_ne hb, upd_ne hb]
          by_cases ha : b = a
          · subst ha; rw [L2.del_same, hna]
          · rw [L2.del_ne ha, upd_ne ha, upd_ne hb, upd_ne ha]
      rw [eH]
      refine en.ex _ _ _ _ _ _ _ _ h1 ⟨R.known, rfl, dx, _, rfl, upd_same, fun x y hl' => ?_⟩ (rv.keep ((e1.trans (ext_new hdx1)).tups rs)) (rs1.new hdx1) (e1.trans (ext_new hdx1))
      obtain ⟨v, lv, rdv⟩ := lookup_zip rds x y hl'
      refine ⟨v, ?_, rdv.keep (tups_new hdx1)⟩
      refine lookup_nodup ?_ ?_
      · rw [List.map_reverse, zip_fst (by omega)]; exact (List.reverse_perm flds).nodup_iff.mpr nd
      · rw [List.mem_reverse]; exact PySem.mem_of_lookup lv
  · exact h1.elim
end
end TA
set_option Elab.async false
set_option linter.all false
set_option maxRecDepth 100000
set_option maxHeartbeats 2000000
/-! TA10d: except suites and try, lifted. -/
namespace TA
open PySem PySem.Spec L2
/-- the exception in hand: the slot of its name, its fields -/
def Hot (K : PySem.W.Frag) (oi : Option Nat) (a : Addr) (cls : Value) (d : Option Addr) (c : Str) (gs : List (Str × D)) (σ : L2.St) (H : Hp) : Prop := RX K H c gs cls d ∧ ∀ i, oi = some i → σ[i]? = some (some (.ref a))
theorem RS.noxd {w : World} {K : PySem.W.Frag} {H : Hp} {S : Sto} (r : RS w K H S) {a : Addr} {gs : List (Str × V)} (h : H a = some (.xd gs)) : S a = none := by
  cases q : S a with
  | none => rfl
  | some o =>
    have z := r a o q
    cases o with
    | lst _ => obtain ⟨_, z, _⟩ := z; rw [h] at z; cases z
    | dct _ _ => obtain ⟨z, _⟩ := z; rw [h] at z; cases z
    | ins _ _ => obtain ⟨_, _, z, _⟩ := z; rw [h] at z; cases z
    | fzl _ => obtain ⟨_, _, z, _⟩ := z; rw [h] at z; cases z
theorem RX.keep {w : World} {K : PySem.W.Frag} {H H' : Hp} {S S' : Sto} {c : Str} {gs : List (Str × D)} {cls : Value} {d : Option Addr} (r : RS w K H S) (e : Ext H S H' S') (x : RX K H c gs cls d) : RX K H' c gs cls d := by
  obtain ⟨h0, h1, dx, fs, h2, h3, h4⟩ := x
  exact ⟨h0, h1, dx, fs, h2, (e.out dx _ h3 (r.noxd h3)).1, fun x y l => let ⟨v, lv, rd⟩ := h4 x y l; ⟨v, lv, rd.keep (e.tups r)⟩⟩
theorem Hot.keep {w : World} {K : PySem.W.Frag} {H H' : Hp} {S S' : Sto} {oi a cls d c gs σ} (r : RS w K H S) (e : Ext H S H' S') (x : Hot K oi a cls d c gs σ H) : Hot K oi a cls d c gs σ H' := ⟨x.1.keep r e, x.2⟩
section
variable (w : World) (K : PySem.W.Frag) (oi : Option Nat) (a : Addr) (cls : Value) (d : Option Addr) (c : Str) (gs : List (Str × D))
def liftZ (f : DE) : TE := fun σ H Q => ∃ c gs, Hot K oi a cls d c gs σ H ∧ ∃ σd S E P, RV K H σd σ ∧ RS w K H S ∧ f E σd S P ∧ ∀ d S' v H', P d S' → RD K H' d v → RS w K H' S' → Ext H S H' S' → Q v H'
end
/-- the suite's fields -/
abbrev gsX (c : Str) (gs : List (Str × D)) : List (Str × D) := (("__class__" : Str), D.str c) :: gs
section
variable {X : Cx} {Γ : List DSp} {oi : Option Nat} {a : Addr} {cls : Value} {d : Option Addr} {pos : Pos}
/-- a reading by the class and the fields in hand -/
def liftH (w : World) (K : PySem.W.Frag) (oi : Option Nat) (a : Addr) (cls : Value) (d : Option Addr) (f : List (Str × D) → DE) : TE := fun σ H Q => ∃ c gs, Hot K oi a cls d c gs σ H ∧ ∃ σd S E P, RV K H σd σ ∧ RS w K H S ∧ f (gsX c gs) E σd S P ∧ ∀ d S' v H', P d S' → RD K H' d v → RS w K H' S' → Ext H S H' S' → Q v H'
def liftHs (w : World) (K : PySem.W.Frag) (oi : Option Nat) (a : Addr) (cls : Value) (d : Option Addr) (n : Nat) (f : List (Str × D) → EX → Env → Sto → LK → Prop) : L2.TA := fun σ H Q => ∃ c gs, Hot K oi a cls d c gs σ H ∧ ∃ σd S E P, RV K H σd σ ∧ RS w K H S ∧ f (gsX c gs) E σd S P ∧ ∀ ds S' vs H', P ds S' → vs.length = n → RDs K H' ds vs → RS w K H' S' → Ext H S H' S' → Q vs H'
/-- the fields of RX, at each address they are the same: readings for any fields -/
theorem h_con {Y : Cx} {e : Expr} {x : D} {v : V} (h : PE Y e (tC v)) (r : ∀ H, RD Y.K H x v) : PE Y e (liftH Y.w Y.K oi a cls d fun fs => wpE Γ fs (.con x)) :=
  peW h fun σ H Q ⟨c, gs, hot, σd, S, E, P, rv, rs, hw, hP⟩ => hP _ _ _ _ hw (r H) rs .refl
theorem hs_nil {Y : Cx} : PA Y [] (liftHs Y.w Y.K oi a cls d 0 fun fs => wpEs Γ fs .nil) :=
  paW pa_nil fun σ H Q ⟨c, gs, hot, σd, S, E, P, rv, rs, hw, hP⟩ => hP _ _ _ _ hw rfl .nil rs .refl
theorem hs_cons {Y : Cx} {e : Expr} {es : List Expr} {x : IE} {r : IEs} (ha : PE Y e (liftH Y.w Y.K oi a cls d fun fs => wpE Γ fs x)) (hr : PA Y es (liftHs Y.w Y.K oi a cls d es.length fun fs => wpEs Γ fs r))
    (hs : starEach (e :: es) Y.env = (false, eval e Y.env) :: starEach es Y.env) : PA Y (e :: es) (liftHs Y.w Y.K oi a cls d (es.length + 1) fun fs => wpEs Γ fs (.cons x r)) :=
  paW (pa_cons ha hr hs) fun σ H Q ⟨c, gs, hot, σd, S, E, P, rv, rs, hw, hP⟩ =>
    ⟨c, gs, hot, σd, S, E, _, rv, rs, hw, fun d S1 v H1 h1 rd rs1 e1 => ⟨c, gs, hot.keep rs e1, σd, S1, E, _, rv.keep (e1.tups rs), rs1, h1, fun ds S2 vs H2 h2 hl rds rs2 e2 =>
      hP _ _ _ _ h2 (by simp [hl]) (.cons (rd.keep (e2.tups rs1)) rds) rs2 (e1.trans e2)⟩⟩
theorem h_tup {Y : Cx} {es : List Expr} {k : Nat} {r : IEs} (h : PA Y es (liftHs Y.w Y.K oi a cls d es.length fun fs => wpEs Γ fs r)) (hl : es.length ≤ sizeLine) : PE Y (.Tuple es k pos) (liftH Y.w Y.K oi a cls d fun fs => wpE Γ fs (.tup r)) :=
  peW (pe_tup h) fun σ H Q ⟨c, gs, hot, σd, S, E, P, rv, rs, hw, hP⟩ =>
    ⟨c, gs, hot, σd, S, E, _, rv, rs, hw, fun ds S1 vs H1 h1 hz rds rs1 e1 => ⟨by rw [hz]; exact hl, fun p hp =>
      hP _ _ _ _ h1 (by simp only [RD]; exact ⟨p, vs, rfl, .of upd_same, rds.keep (tups_new hp)⟩) (rs1.new hp) (e1.trans (ext_new hp))⟩⟩
theorem h_efld {i : Nat} {oe : Obj} {pn : List (Addr × Obj)} {x f : Str} {p : Pos} (hi : X.N[i]? = some x) (hv : Vis X.env.scope x) (hd : (x == ("__debug__" : Str)) = false) (hcd : (x == ("__classdict__" : Str)) = false) (hne : f ∈ fldNames) (hz : Zc cls d oe) (hf : ∃ vs, oe.data = .fields vs)
    (hb : attributeBase (.Name x p) f X.env (eval (.Name x p) X.env) = eval (.Name x p) X.env) :
    PE (X.suite a ((a, oe) :: pn)) (.Attribute (.Name x p) f pos) (liftH X.w X.K (some i) a cls d fun fs => wpE Γ fs (.efld f)) := by
  refine ⟨fun pins s σ H Q I ⟨c, gs, hot, σd, S, E, P, rv, rs, hw, hP⟩ => ?_⟩
  obtain ⟨⟨kn, hcls, dx, vs, hdx, hH, hl⟩, hsl⟩ := hot
  simp only [wpE] at hw
  split at hw
  · rename_i y hy
    have hlk : gs.lookup f = some y := by
      have : (f == ("__class__" : Str)) = false := by
        simp only [fldNames, List.mem_cons, List.not_mem_nil, or_false] at hne
        rcases hne with rfl | rfl | rfl | rfl <;> decide
      simpa [gsX, List.lookup_cons, this] using hy
    obtain ⟨v, lv, rd⟩ := hl f y hlk
    exact (pe_xf (pos := pos) kn.xf (kn.no f hne) hz hf (pe_var (X := X.suite a ((a, oe) :: pn)) hi hv hd hcd) hb).run pins s σ H Q I ⟨.ref a, hsl i rfl, rfl, hcls, dx, vs, v, hdx, hH, lv, hP _ _ _ _ hw rd rs .refl⟩
  · exact hw.elim
/-! ### suites -/
def liftSH (w : World) (K : PySem.W.Frag) (oi : Option Nat) (a : Addr) (cls : Value) (d : Option Addr) (f : List (Str × D) → Ks → Env → Sto → Prop) : TS := fun D σ H => ∃ c gs, Hot K oi a cls d c gs σ H ∧ ∃ σd S k, RV K H σd σ ∧ RS w K H S ∧ EndsR w K WN k D H S ∧ f (gsX c gs) k σd S
theorem hss_nil {Y : Cx} : PSs Y [] (liftSH Y.w Y.K oi a cls d fun fs => wpSs Γ fs .nil) := pssW pss_nil fun D σ H ⟨c, gs, hot, σd, S, k, rv, rs, en, hw⟩ => en.nx _ _ _ _ (by simpa only [wpSs] using hw) rv rs .refl
theorem hs_ret {Y : Cx} {e : Expr} {x : IE} {r : List Stmt} {ss : ISs} (he : PE Y e (liftH Y.w Y.K oi a cls d fun fs => wpE Γ fs x)) : PSs Y [.Return (some e) pos] (liftSH Y.w Y.K oi a cls d fun fs => wpSs Γ fs (.cons (.ret x) .nil)) :=
  pssW (pss_one (ps_ret he)) fun D σ H ⟨c, gs, hot, σd, S, k, rv, rs, en, hw⟩ => by
    simp only [wpSs, wpS] at hw
    exact ⟨c, gs, hot, σd, S, _, _, rv, rs, hw, fun d S1 v H1 h1 rd rs1 e1 => en.rt _ _ _ _ h1 rd rs1 e1⟩
/-! ### try -/
theorem RV.noneO {K : PySem.W.Frag} {H : Hp} {σd : Env} {σ : L2.St} (r : RV K H σd σ) (n : Option Nat) (x : Option V) : RV K H (noneAt n σd) (setO n σ x) := by
  cases n with
  | none => exact r
  | some i =>
    refine ⟨by simp [noneAt, setO, r.1], fun j e h => ?_⟩
    by_cases hj : i = j
    · subst hj
      simp only [noneAt] at h
      by_cases hl : i < σd.length
      · rw [List.getElem?_set_self hl] at h; cases h
      · rw [List.getElem?_eq_none (by simpa using hl)] at h; cases h
    · simp only [noneAt, setO] at h ⊢
      rw [List.getElem?_set_ne hj] at h ⊢
      exact r.2 j e h
/-- clauses, in the layer and here -/
def HdsI (X : Cx) (Γ : List DSp) (hds : List ExceptHandler) (ih : IHs) : Prop := ∃ l, HdsG X hds l ∧ ∀ (c' : Str) (gs : List (Str × D)) (k : Ks) (σd : Env) (S : Sto) (σ : L2.St) (H : Hp) (D : Ends) (cls : Value) (d : Option Addr) (Wout : WX),
  wpHs Γ ih c' gs k σd S → RX X.K H c' gs cls d → RV X.K H σd σ → RS X.w X.K H S → EndsR X.w X.K Wout k D H S → wGen X.K Wout D l cls d σ H
theorem hds_nil {X : Cx} : HdsI X Γ [] .nil := ⟨[], .nil, fun c' gs k σd S σ H D cls d Wout hw rx rv rs en => by
  simp only [wpHs] at hw
  exact en.ex _ _ _ _ _ _ _ _ hw rx rv rs .refl⟩
theorem wpHs_cons {c : Str} {n : Option Nat} {h : ISs} {r : IHs} {c' : Str} {gs : List (Str × D)} {k : Ks} {σd : Env} {S : Sto} : wpHs Γ (.cons c n h r) c' gs k σd S = if c ∈ above c' then slotOk n σd ∧ wpSs Γ (gsX c' gs) h { nx := fun σ S => k.nx (noneAt n σ) S, rt := k.rt, bk := fun σ S => k.bk (noneAt n σ) S, ct := fun σ S => k.ct (noneAt n σ) S, ex := fun _ _ _ _ => False } (noneAt n σd) S else wpHs Γ r c' gs k σd S := by
  rw [wpHs]
theorem hds_step {X : Cx} {c : Str} {n : Option Nat} {h : ISs} {r : IHs} {l : List (Value × Option Nat × (Addr → Value → Option Addr → TS))} (hmem : c ∈ errNames) (hglo : PySem.W.nsIn X.K mainGlobals c = some (some (.ref (clA X.K c))))
    (ih : ∀ (c' : Str) (gs : List (Str × D)) (k : Ks) (σd : Env) (S : Sto) (σ : L2.St) (H : Hp) (D : Ends) (cls : Value) (d : Option Addr) (Wout : WX),
      wpHs Γ r c' gs k σd S → RX X.K H c' gs cls d → RV X.K H σd σ → RS X.w X.K H S → EndsR X.w X.K Wout k D H S → wGen X.K Wout D l cls d σ H)
    (c' : Str) (gs : List (Str × D)) (k : Ks) (σd : Env) (S : Sto) (σ : L2.St) (H : Hp) (D : Ends) (cls : Value) (d : Option Addr) (Wout : WX)
    (hw : wpHs Γ (.cons c n h r) c' gs k σd S) (rx : RX X.K H c' gs cls d) (rv : RV X.K H σd σ) (rs : RS X.w X.K H S) (en : EndsR X.w X.K Wout k D H S) :
    wGen X.K Wout D ((.ref (clA X.K c), n, fun a cls d => liftSH X.w X.K n a cls d fun fs => wpSs Γ fs h) :: l) cls d σ H := by
  rw [wpHs_cons] at hw
  refine ⟨decide (c ∈ above c'), by rw [rx.2.1]; exact rx.1.exm c hmem hglo, fun hb a ha => ?_, fun hb => ?_⟩
  · rw [if_pos (of_decide_eq_true hb)] at hw
    refine ⟨c', gs, ⟨rx, fun i hi => ?_⟩, noneAt n σd, S, { nx := fun σ S => k.nx (noneAt n σ) S, rt := k.rt, bk := fun σ S => k.bk (noneAt n σ) S, ct := fun σ S => k.ct (noneAt n σ) S, ex := fun _ _ _ _ => False }, rv.noneO n _, rs, ⟨fun σd1 S1 σ1 H1 h1 rv1 rs1 e1 => en.nx _ _ _ _ h1 (rv1.noneO n none) rs1 e1, en.rt, fun σd1 S1 σ1 H1 h1 rv1 rs1 e1 => en.bk _ _ _ _ h1 (rv1.noneO n none) rs1 e1, fun σd1 S1 σ1 H1 h1 rv1 rs1 e1 => en.ct _ _ _ _ h1 (rv1.noneO n none) rs1 e1, fun _ _ _ _ _ _ _ _ z => z.elim⟩, hw.2⟩
    subst hi
    have hl : i < σd.length := hw.1
    show (σ.set i (some (.ref a)))[i]? = _
    exact List.getElem?_set_self (by rw [← rv.1]; exact hl)
  · rw [if_neg (of_decide_eq_false hb)] at hw
    exact ih c' gs k σd S σ H D cls d Wout hw rx rv rs en
theorem hds_cons {X : Cx} {c : Str} {h : ISs} {r : IHs} {b₀ : Stmt} {suite : List Stmt} {np pos' : Pos} {hds : List ExceptHandler} (hmem : c ∈ errNames) (hglo : PySem.W.nsIn X.K mainGlobals c = some (some (.ref (clA X.K c)))) (hc : Names X c (.ref (clA X.K c)))
    (hsu : ∀ (a : Addr) (oe : Obj) (cls : Value) (d : Option Addr) (pn : List (Addr × Obj)), Zc cls d oe → (∃ vs, oe.data = .fields vs) → PSs (X.suite a ((a, oe) :: pn)) (b₀ :: suite) (liftSH X.w X.K none a cls d fun fs => wpSs Γ fs h)) (ih : HdsI X Γ hds r) :
    HdsI X Γ (.ExceptHandler (some (.Name c np)) none (b₀ :: suite) pos' :: hds) (.cons c none h r) := by
  obtain ⟨l, hl, ih⟩ := ih
  exact ⟨_, .cons hc hsu hl, hds_step hmem hglo ih⟩
theorem hds_as {X : Cx} {c n : Str} {i : Nat} {h : ISs} {r : IHs} {b₀ : Stmt} {suite : List Stmt} {np pos' : Pos} {hds : List ExceptHandler} (hmem : c ∈ errNames) (hglo : PySem.W.nsIn X.K mainGlobals c = some (some (.ref (clA X.K c)))) (hi : X.N[i]? = some n) (hln : X.env.kindOf n = some .local) (hc : Names X c (.ref (clA X.K c)))
    (hsu : ∀ (a : Addr) (oe : Obj) (cls : Value) (d : Option Addr) (pn : List (Addr × Obj)), Zc cls d oe → (∃ vs, oe.data = .fields vs) → PSs (X.suite a ((a, oe) :: pn)) (b₀ :: suite) (liftSH X.w X.K (some i) a cls d fun fs => wpSs Γ fs h)) (ih : HdsI X Γ hds r) :
    HdsI X Γ (.ExceptHandler (some (.Name c np)) (some n) (b₀ :: suite) pos' :: hds) (.cons c (some i) h r) := by
  obtain ⟨l, hl, ih⟩ := ih
  exact ⟨_, .as hi hln hc hsu hl, hds_step hmem hglo ih⟩
theorem s_trn {X : Cx} {W : WX} {fs : List (Str × D)} {body : List Stmt} {h₀ : ExceptHandler} {hds : List ExceptHandler} {b : ISs} {ih : IHs} (hN : X.N.Nodup) (hs : X.stack = X.env :: X.outer) (hf : X.env.frame = some X.env.locals) (tk : Takes X W)
    (hb : ∀ (W : WX) (pn : List (Addr × Obj)) (xe : Value → Shared → Prop), Takes (X.tr pn xe) W → PassesOwn (model X.prog X.w) X.A X.env xe → PSs (X.tr pn xe) body (liftS X.w X.K W (wpSs Γ fs b)))
    (hh : HdsI X Γ (h₀ :: hds) ih) : PS X (.Try body (h₀ :: hds) [] [] pos) (liftS X.w X.K W (wpS Γ fs (.trn b ih))) := by
  obtain ⟨l, hl, hh⟩ := hh
  refine psW (ps_try_gen hN hs hf tk (tb := fun W => liftS X.w X.K W (wpSs Γ fs b)) hb hl) fun D σ H ⟨σd, S, k, rv, rs, en, hw⟩ => ?_
  simp only [wpS] at hw
  exact ⟨σd, S, { k with ex := fun c' gs σ' S' => wpHs Γ ih c' gs k σ' S' }, rv, rs, ⟨en.nx, en.rt, en.bk, en.ct, fun c gs σd1 S1 cls d σ1 H1 h1 rx rv1 rs1 e1 => hh c gs k σd1 S1 σ1 H1 D cls d W h1 rx rv1 rs1 (en.keep e1)⟩, hw⟩
end
end TA
set_option Elab.async false
set_option linter.all false
set_option maxRecDepth 100000
set_option maxHeartbeats 2000000
/-! TA11: a def, by what its body computes. -/
namespace TA
open PySem PySem.Spec L2
/-- a part of the store -/
def Sub (S0 S : Sto) : Prop := ∀ a o, S0 a = some o → S a = some o
theorem Sub.refl {S : Sto} : Sub S S := fun _ _ h => h
theorem Sub.trans {S S1 S2 : Sto} (a : Sub S S1) (b : Sub S1 S2) : Sub S S2 := fun c o h => b c o (a c o h)
theorem Sub.emp {S : Sto} : Sub emp S := fun _ _ h => by cases h
theorem Sub.put {S S' : Sto} {p : Addr} {o : SO} (h : Sub S S') (n : S p = none) : Sub S (put S' p o) := fun a u e => by
  have ne : a ≠ p := fun z => by subst z; rw [n] at e; cases e
  rw [put_ne ne]; exact h a u e
/-- what stood outside is not taken for new -/
def New (S S0 S' : Sto) : Prop := ∀ a, S a ≠ none → S0 a = none → S' a = none
/-- what stands behind: of the body's store, or as it stood outside -/
def Mix (S S0 S' S2 : Sto) : Prop := ∀ a o, S2 a = some o → S' a = some o ∨ (S0 a = none ∧ S a = some o)
theorem Mix.pure {S S' : Sto} : Mix S emp S' S := fun a o h => .inr ⟨rfl, h⟩
theorem Sub.none {S0 S : Sto} (h : Sub S0 S) {a : Addr} (n : S a = none) : S0 a = none := by
  cases q : S0 a with
  | none => rfl
  | some o => have := h a o q; rw [n] at this; cases this
section
variable {w : World} {K : PySem.W.Frag} {H H' : Hp} {S S0 S' S2 : Sto}
theorem mix_rs (sb : Sub S0 S) (rs : RS w K H S) (rs' : RS w K H' S') (e : Ext H S0 H' S') (m : Mix S S0 S' S2) : RS w K H' S2 := fun a o h => by
  rcases m a o h with h | ⟨h0, h⟩
  · exact rs' a o h
  · have t : Tups H H' := fun b xs q => by
      have n0 := sb.none (rs.tup q)
      rcases q with q | ⟨ob, q⟩
      · exact .inl (e.out b _ q n0).1
      · exact .inr ⟨ob, (e.out b _ q n0).1⟩
    exact (rs a o h).keep t fun u q => (e.out a u q h0).1
theorem mix_ext (sb : Sub S0 S) (e : Ext H S0 H' S') (m : Mix S S0 S' S2) : Ext H S H' S2 := by
  refine ⟨fun a o q n => ?_, fun a q n => ?_⟩
  · obtain ⟨h1, h2⟩ := e.out a o q (sb.none n)
    refine ⟨h1, ?_⟩
    cases z : S2 a with
    | none => rfl
    | some u =>
      rcases m a u z with z | ⟨_, z⟩
      · rw [h2] at z; cases z
      · rw [n] at z; cases z
  · cases z : S2 a with
    | none => exact absurd z q
    | some u =>
      rcases m a u z with z | ⟨_, z⟩
      · exact e.new a (by rw [z]; simp) (sb.none n)
      · rw [n] at z; cases z
theorem new_of (rs : RS w K H S) (e : Ext H S0 H' S') : New S S0 S' := fun a h n => by
  cases z : S a with
  | none => exact absurd z h
  | some o =>
    have : ∃ u, H a = some u := by
      have r := rs a o z
      cases o with
      | lst _ => obtain ⟨_, z, _⟩ := r; exact ⟨_, z⟩
      | dct _ _ => obtain ⟨z, _⟩ := r; exact ⟨_, z⟩
      | ins _ _ => obtain ⟨_, _, z, _⟩ := r; exact ⟨_, z⟩
      | fzl _ => obtain ⟨_, _, z, _⟩ := r; exact ⟨_, z⟩
    obtain ⟨u, hu⟩ := this
    exact (e.out a u hu n).2
end
/-- a body keeps a promise: it is run at a part of the store, what stands behind is mixed with the rest -/
def Keeps (Γ : List DSp) (n : Nat) (ir : ISs) (sp : DSp) : Prop := ∀ ds S Q E, sp ds S Q E → ∃ S0 P Pe, Sub S0 S ∧ body Γ n ir ds S0 P Pe ∧ (∀ d S', P d S' → New S S0 S' → ∃ S2, Mix S S0 S' S2 ∧ Q d S2) ∧ (∀ c gs S', Pe c gs S' → New S S0 S' → ∃ S2, Mix S S0 S' S2 ∧ E c gs S2)
theorem rds_start {K : PySem.W.Frag} {H : Hp} {N : List Str} {ds : List D} {vs : List V} (r : RDs K H ds vs) : RV K H (ds.map some ++ List.replicate (N.length - ds.length) none) (L2.start N vs) := by
  have hl := r.length
  refine ⟨by simp [L2.start, hl], fun i d e => ?_⟩
  by_cases hi : i < ds.length
  · rw [List.getElem?_append_left (by simpa using hi), List.getElem?_map] at e
    cases q : ds[i]? with
    | none => rw [q] at e; cases e
    | some d' =>
      rw [q] at e
      have e : d' = d := by simpa using e
      subst e
      obtain ⟨v, ev, rd⟩ := r.get q
      refine ⟨v, ?_, rd⟩
      unfold L2.start
      rw [List.getElem?_append_left (by rw [List.length_map, ← hl]; exact hi), List.getElem?_map, ev]
      rfl
  · rw [List.getElem?_append_right (by simpa using hi), List.getElem?_replicate] at e
    split at e <;> cases e
section
variable {P : Program} {w : World} {K : PySem.W.Frag} {mg : Str → Option Value} {base : Heap} {x qual : Str} {params : Arguments} {bd : List Stmt} {scope : Scope} {dvs : List V} {kws : List (Str × V)} {f : Addr} {fd : FuncData} {Γ : List DSp} {N ps : List Str} {k : Nat} {ir : ISs} {sp : DSp}
/-- the wish of a def about exceptions -/
def WD (E : XK) : WX := fun cls d _ H => E cls d H
theorem fn_ta (F : FunD K x qual params bd scope dvs kws f fd) (Sc : FnScope N ps scope) (len : ∀ ds S Q E, sp ds S Q E → ds.length = ps.length)
    (hb : ∀ (cdv : Value) (A : Around) (outer : List PySem.Env) (s : Shared) (H : Hp) (E : XK), A.guards = some [] → Room k (A.deeper (PyProof.Rows.envOfC qual scope s.heap.objs.size f cdv)) → PSs (cxOf (L2.CX P w) P w K mg base N qual scope f cdv A outer s H E) bd (liftS w K (WD E) (wpSs Γ [] ir)))
    (hk : Keeps Γ N.length ir sp) : FnOkG P w K mg base (L2.CX P w) (k + 1) f fd ps (liftSp w K sp) := by
  refine okG F Sc (fun vs H Q E ⟨ds, S, P, Pe, rds, rs, h, _⟩ => by rw [← rds.length]; exact len _ _ _ _ h) fun cdv A outer s H vs Q E hG hr ⟨ds, S, P, Pe, rds, rs, h, hQ, hE⟩ => ?_
  obtain ⟨S0, P0, Pe0, sb, hbd, h1, h2⟩ := hk _ _ _ _ h
  refine ⟨_, hb cdv A outer s H E hG hr, _, S0, { nx := fun _ S' => P0 .non S', rt := P0, bk := fun _ _ => False, ct := fun _ _ => False, ex := fun c gs _ S' => Pe0 c gs S' }, rds_start rds, rs.sub sb, ⟨fun σd S' σ H' hp rv rs' e' => ?_, fun d S' v H' hp rd rs' e' => ?_, fun _ _ _ _ z => z.elim, fun _ _ _ _ z => z.elim, fun c gs σd S' cls d σ H' hp rx rv rs' e' => ?_⟩, hbd⟩
  · obtain ⟨S2, m, q⟩ := h1 _ _ hp (new_of rs e')
    exact hQ _ _ _ _ q (rd_non.mpr rfl) (mix_rs sb rs rs' e' m) (mix_ext sb e' m)
  · obtain ⟨S2, m, q⟩ := h1 _ _ hp (new_of rs e')
    exact hQ _ _ _ _ q rd (mix_rs sb rs rs' e' m) (mix_ext sb e' m)
  · obtain ⟨S2, m, q⟩ := h2 _ _ _ hp (new_of rs e')
    exact hE _ _ _ _ _ _ q rx (mix_rs sb rs rs' e' m) (mix_ext sb e' m)
end
end TA
set_option Elab.async false
set_option linter.all false
set_option maxRecDepth 100000
/-! TA12a: the text, read as the small language. -/
namespace TA
open PySem PySem.Spec L2
/-- what is known where a def's text is read -/
structure CC where
  N : List Str
  fns : List Str
  consts : List (Str × D)
  errs : List Str
def badNm (x : Str) : Bool := (x == ("__debug__" : Str)) || ((x == ("__classdict__" : Str)) || (x == ("__name__" : Str)))
def ixOf (x : Str) : List Str → Option Nat
  | [] => none
  | y :: r => if x = y then some 0 else (ixOf x r).map (· + 1)
def Bi.nm : Bi → Str
  | .len => "len" | .all => "all" | .any => "any" | .sum => "sum" | .min1 => "min" | .max1 => "max" | .min2 => "min" | .max2 => "max" | .sorted => "sorted" | .tuple => "tuple" | .list => "list" | .dict0 => "dict" | .dict => "dict" | .abs => "abs" | .int => "int" | .repr => "repr" | .str => "str"
def Bi.vl : Bi → Value
  | .len => .builtin "len" | .all => .builtin "all" | .any => .builtin "any" | .sum => .builtin "sum" | .min1 => .builtin "min" | .max1 => .builtin "max" | .min2 => .builtin "min" | .max2 => .builtin "max" | .sorted => .builtin "sorted" | .tuple => .type "tuple" | .list => .type "list" | .dict0 => .type "dict" | .dict => .type "dict" | .abs => .builtin "abs" | .int => .type "int" | .repr => .builtin "repr" | .str => .type "str"
def biTab : List (Str × Nat × Bi) := [("len", 1, .len), ("all", 1, .all), ("any", 1, .any), ("sum", 1, .sum), ("min", 1, .min1), ("max", 1, .max1), ("min", 2, .min2), ("max", 2, .max2), ("sorted", 1, .sorted), ("tuple", 1, .tuple), ("list", 1, .list), ("dict", 1, .dict), ("abs", 1, .abs), ("int", 1, .int), ("repr", 1, .repr), ("str", 1, .str)]
def biOf (x : Str) (n : Nat) : Option Bi := (biTab.find? fun p => p.1 == x && p.2.1 == n).map (·.2.2)
def tyTab : List (Str × Ty) := [("int", .int), ("bool", .bool), ("str", .str), ("tuple", .tuple), ("list", .list), ("dict", .dict)]
def Me.nm : Me → Str
  | .append => "append" | .pop => "pop" | .update => "update" | .get1 => "get" | .get2 => "get" | .setdefault => "setdefault" | .items => "items" | .join => "join" | .dpop2 => "pop"
def meTab : List (Str × Nat × Me) := [("append", 1, .append), ("pop", 0, .pop), ("update", 1, .update), ("get", 1, .get1), ("get", 2, .get2)]
def meOf (x : Str) (n : Nat) : Option Me := (meTab.find? fun p => p.1 == x && p.2.1 == n).map (·.2.2)
/-- the names of built-ins that are read -/
def biNames : List Str := ["len", "all", "any", "sum", "min", "max", "sorted", "tuple", "list", "dict", "abs", "int", "repr", "str", "isinstance", "range", "enumerate", "zip", "bool"]
def isGl (sc : Scope) (x : Str) : Bool := decide (sc.names.lookup x = some .globalImplicit) && !badNm x
def noStar1 : Expr → Bool
  | .Starred _ _ => false
  | _ => true
def noCall : Expr → Bool
  | .Call _ _ _ _ => false
  | _ => true
def noSlice : Expr → Bool
  | .Slice _ _ _ _ => false
  | _ => true
def noComp : Expr → Bool
  | .ListComp _ _ _ _ => false
  | .SetComp _ _ _ _ => false
  | .DictComp _ _ _ _ _ => false
  | _ => true
def noSet : Expr → Bool
  | .Set _ _ _ => false
  | _ => true
def opOk : Operator → Bool
  | .Add | .Sub | .Mult | .FloorDiv | .Mod | .Pow => true
  | _ => false
def cmpOk : CmpOp → Bool
  | .Eq | .NotEq | .Is | .IsNot | .In | .NotIn | .Lt | .LtE | .Gt | .GtE => true
/-- the block's own names, with their slots -/
def ownOf (N : List Str) (sc : Scope) : List (Str × Nat) := sc.names.filterMap fun p => if p.2 == .local || p.2 == .cell then (ixOf p.1 N).map fun i => (p.1, i) else none
def fnB (scope : Scope) : Str → Bool := fun x => scope.names.lookup x == some .cell
section
variable (C : CC)
mutual
def cE : Nat → Scope → (Str → Bool) → Expr → Option IE
  | 0, _, _, _ => none
  | n + 1, sc, fx, e => match e with
    | .Name x _ => if badNm x = true then none else match sc.names.lookup x with
      | some .local => (ixOf x C.N).map .var
      | some .cell => (ixOf x C.N).map .var
      | some .free => (ixOf x C.N).map .var
      | some .globalImplicit => (C.consts.lookup x).map .con
      | _ => none
    | .Constant c _ _ => match c with
      | .none => some (.con .non)
      | .bool b => some (.con (.bl b))
      | .int i => some (.con (.int i))
      | .str x => some (.con (.str x))
      | _ => none
    | .Tuple es _ _ => if es.length ≤ 1000 then (cEs n sc fx es).map .tup else none
    | .List es _ => if es.length ≤ 1000 then (cEs n sc fx es).map .lst else none
    | .BinOp a op b _ => if opOk op = true then (cE n sc fx a).bind fun x => (cE n sc fx b).map fun y => .bin op x y else none
    | .UnaryOp .Not a _ => (cE n sc fx a).map .nt
    | .UnaryOp .USub a _ => (cE n sc fx a).map .neg
    | .BoolOp .And vs _ => cV n sc fx true vs
    | .BoolOp .Or vs _ => cV n sc fx false vs
    | .Compare a [op] [b] _ => if cmpOk op && noSet b = true then (cE n sc fx a).bind fun x => (cE n sc fx b).map fun y => .cmp op x y else none
    | .Compare a [o1, o2] [b, c] _ => if cmpOk o1 && (cmpOk o2 && noSet c) = true then (cE n sc fx a).bind fun x => (cE n sc fx b).bind fun y => (cE n sc fx c).map fun z => .cmp2 o1 o2 x y z else none
    | .IfExp c a b _ => (cB n sc fx c).bind fun t => (cE n sc fx a).bind fun x => (cE n sc fx b).map fun y => .ite t x y
    | .Subscript a (.Slice lo hi none _) _ => (cE n sc fx a).bind fun x => (cO n sc fx lo).bind fun l => (cO n sc fx hi).map fun u => .slc x l u
    | .Subscript a (.Slice none none (some (.UnaryOp .USub (.Constant (.int 1) _ _) _)) _) _ => (cE n sc fx a).map .rev
    | .Subscript a i _ => if noSlice i = true then (cE n sc fx a).bind fun x => (cE n sc fx i).map fun y => .idx x y else none
    | .Call (.Name x _) args [] _ => if isGl sc x = true then
        (match ixOf x C.fns with
        | some i => (cEs n sc fx args).map fun as => .fn i as
        | none => if x = "isinstance" then (match args with
            | [a, .Name t _] => if isGl sc t = true then (tyTab.lookup t).bind fun ty => (cE n sc fx a).map fun y => .isi y ty else none
            | _ => none) else (biOf x args.length).bind fun b => (cEs n sc fx args).map fun as => .bi b as)
      else none
    | .Call (.Attribute o m ap) args [] cp => if (noCall o && (ap.endLine == cp.line)) = true then (meOf m args.length).bind fun me => (cE n sc fx o).bind fun x => (cEs n sc fx args).map fun as => .mt me x as else none
    | .ListComp elt [⟨tg, it, ifs, 0⟩] scope _ => if blkC C.N sc scope (ownOf C.N scope) = true then
        (cI n sc fx tg it).bind fun i => (cG n (relS scope sc) (fnB scope) ((ownOf C.N scope).map (·.2)) tg).bind fun t => (cF n (relS scope sc) (fnB scope) ifs).bind fun c => (cE n (relS scope sc) (fnB scope) elt).map fun e => .lc ((ownOf C.N scope).map (·.2)) t i c e
      else none
    | .ListComp elt [⟨tg, it, ifs, 0⟩, ⟨tg1, it1, ifs1, 0⟩] scope _ => if blkC C.N sc scope (ownOf C.N scope) = true then
        (cI n sc fx tg it).bind fun i => (cG n (relS scope sc) (fnB scope) ((ownOf C.N scope).map (·.2)) tg).bind fun t => (cF n (relS scope sc) (fnB scope) ifs).bind fun c =>
          (cI n (relS scope sc) (fnB scope) tg1 it1).bind fun i1 => (cG n (relS scope sc) (fnB scope) (tgs C.N tg1) tg1).bind fun t1 => (cF n (relS scope sc) (fnB scope) ifs1).bind fun c1 =>
            if ((tgs C.N tg1).all fun i => decide (i ∈ (ownOf C.N scope).map (·.2))) = true then (cE n (relS scope sc) (fnB scope) elt).map fun e => .lc2 ((ownOf C.N scope).map (·.2)) (tgs C.N tg1) t i c t1 i1 c1 e else none
      else none
    | .Dict ks vs _ => match ks, vs with
      | [], [] => some (.dct .nil .nil)
      | [some k], [v] => (cE n sc fx k).bind fun x => (cE n sc fx v).map fun y => .dct (.cons x .nil) (.cons y .nil)
      | _, _ => none
    | .DictComp k v [⟨tg, it, ifs, 0⟩] scope _ => if blkC C.N sc scope (ownOf C.N scope) = true then
        (cI n sc fx tg it).bind fun i => (cG n (relS scope sc) (fnB scope) ((ownOf C.N scope).map (·.2)) tg).bind fun t => (cF n (relS scope sc) (fnB scope) ifs).bind fun c =>
          (cE n (relS scope sc) (fnB scope) k).bind fun x => (cE n (relS scope sc) (fnB scope) v).map fun y => .dc ((ownOf C.N scope).map (·.2)) t i c x y
      else none
    | _ => none
def cEs : Nat → Scope → (Str → Bool) → List Expr → Option IEs
  | 0, _, _, _ => none
  | n + 1, sc, fx, es => match es with
    | [] => some .nil
    | e :: r => (cE n sc fx e).bind fun x => (cEs n sc fx r).map fun y => .cons x y
def cO : Nat → Scope → (Str → Bool) → Option Expr → Option IE
  | 0, _, _, _ => none
  | n + 1, sc, fx, e => match e with
    | none => some (.con .non)
    | some e => cE n sc fx e
def cV : Nat → Scope → (Str → Bool) → Bool → List Expr → Option IE
  | 0, _, _, _, _ => none
  | n + 1, sc, fx, k, es => match es with
    | [] => none
    | [e] => cE n sc fx e
    | e :: r => (cE n sc fx e).bind fun x => (cV n sc fx k r).map fun y => if k = true then .an x y else .or x y
def cB : Nat → Scope → (Str → Bool) → Expr → Option IB
  | 0, _, _, _ => none
  | n + 1, sc, fx, e => match e with
    | .UnaryOp .Not a _ => (cB n sc fx a).map .nt
    | .BoolOp .And vs _ => cW n sc fx true vs
    | .BoolOp .Or vs _ => cW n sc fx false vs
    | .Compare a [op] [b] _ => if cmpOk op && noSet b = true then (cE n sc fx a).bind fun x => (cE n sc fx b).map fun y => .cmp op x y else none
    | .Compare a [o1, o2] [b, c] _ => if cmpOk o1 && (cmpOk o2 && noSet c) = true then (cE n sc fx a).bind fun x => (cE n sc fx b).bind fun y => (cE n sc fx c).map fun z => .cmp2 o1 o2 x y z else none
    | .Name _ _ => (cE n sc fx e).map .tr
    | .Constant _ _ _ => (cE n sc fx e).map .tr
    | .Call _ _ _ _ => (cE n sc fx e).map .tr
    | .Subscript _ _ _ => (cE n sc fx e).map .tr
    | .ListComp _ _ _ _ => (cE n sc fx e).map .tr
    | _ => none
def cW : Nat → Scope → (Str → Bool) → Bool → List Expr → Option IB
  | 0, _, _, _, _ => none
  | n + 1, sc, fx, k, es => match es with
    | [] => none
    | [e] => cB n sc fx e
    | e :: r => (cB n sc fx e).bind fun x => (cW n sc fx k r).map fun y => if k = true then .an x y else .or x y
def cF : Nat → Scope → (Str → Bool) → List Expr → Option IB
  | 0, _, _, _ => none
  | n + 1, sc, fx, es => match es with
    | [] => some .yes
    | [e] => cB n sc fx e
    | _ => none
def cI : Nat → Scope → (Str → Bool) → Expr → Expr → Option II
  | 0, _, _, _, _ => none
  | n + 1, sc, fx, tg, e => match e with
    | .Call (.Name x _) args [] _ => if isGl sc x = true then
        (if x = "range" then (if args.length = 1 ∨ args.length = 2 ∨ args.length = 3 then (cEs n sc fx args).map .rng else none)
        else if x = "enumerate" then (match args, tg with
          | [a], .Tuple _ _ _ => (cE n sc fx a).map .enu
          | _, _ => none)
        else if x = "zip" then (match args, tg with
          | [a, b], .Tuple _ _ _ => (cE n sc fx a).bind fun y => (cE n sc fx b).map fun z => .zip y z
          | _, _ => none)
        else (cE n sc fx e).map .ev) else none
    | .Call (.Attribute o m ap) args [] cp => if m = "items" then (match args, tg with
        | [], .Tuple _ _ _ => if (noCall o && (ap.endLine == cp.line)) = true then (cE n sc fx o).map .items else none
        | _, _ => none) else (cE n sc fx e).map .ev
    | .Set _ _ _ => none
    | e => (cE n sc fx e).map .ev
def tgs (N : List Str) : Expr → List Nat
  | .Name x _ => match ixOf x N with
    | some i => [i]
    | none => []
  | _ => []
def cG : Nat → Scope → (Str → Bool) → List Nat → Expr → Option IT
  | 0, _, _, _, _ => none
  | n + 1, sc, fx, vs, e => match e with
    | .Name x _ => if badNm x = true then none else (ixOf x C.N).bind fun i => if i ∈ vs then (match sc.names.lookup x with
      | some .local => some (.nam i)
      | some .cell => if fx x = true then some (.nam i) else none
      | _ => none) else none
    | .Tuple es _ _ => (cGs n sc fx vs es).map .tup
    | _ => none
def cGs : Nat → Scope → (Str → Bool) → List Nat → List Expr → Option ITs
  | 0, _, _, _, _ => none
  | n + 1, sc, fx, vs, es => match es with
    | [] => some .nil
    | e :: r => (cG n sc fx vs e).bind fun t => (cGs n sc fx vs r).map fun ts => .cons t ts
end
end
end TA
set_option Elab.async false
set_option linter.all false
set_option maxRecDepth 100000
set_option maxHeartbeats 2000000
/-! TA12b: the reading is right. -/
namespace TA
open PySem PySem.Spec L2
/-- what the dicts' file gives -/
structure DctAll (X : Cx) : Prop where
  ix : IxR X (rIxD X.w X.K)
  it : DctIter X
  set : DctSet X
  inn : OpR X (compareOp .In) (liftR X.w X.K (cmpV .In))
  nin : OpR X (compareOp .NotIn) (liftR X.w X.K (cmpV .NotIn))
  bi : X.calm = true → ∀ b, b ∈ [Bi.len, .list, .dict, .sorted, .repr] → CallR X b.vl (liftCall X b)
  dct0 : ∀ {W : WX} {Γ : List DSp} {fs : List (Str × D)} {pos : Pos}, PE X (.Dict [] [] pos) (liftE X.w X.K W (wpE Γ fs (.dct .nil .nil)))
  dct1 : ∀ {W : WX} {Γ : List DSp} {fs : List (Str × D)} {k v : Expr} {a b : IE} {pos : Pos}, PE X k (liftE X.w X.K W (wpE Γ fs a)) → PE X v (liftE X.w X.K W (wpE Γ fs b)) → PE X (.Dict [some k] [v] pos) (liftE X.w X.K W (wpE Γ fs (.dct (.cons a .nil) (.cons b .nil))))
  dc : ∀ {W : WX} {Γ : List DSp} {fs : List (Str × D)} {kx vx tg iter : Expr} {ifs : List Expr} {scope : Scope} {own : List (Str × Nat)} {pos : Pos} {t : IT} {it : II} {c : IB} {k v : IE}, X.calm = true → X.N.Nodup → PI X tg iter (liftI X.w X.K W (wpI Γ fs it)) → BlkOk X.N X.env.scope scope own →
    inB X scope (fun Y => PG Y tg (liftG X.K (own.map (·.2)) (wpT t))) → inB X scope (fun Y => PTs Y ifs (liftB X.w X.K WN (wpB Γ fs c))) → inB X scope (fun Y => PE Y kx (liftE X.w X.K WN (wpE Γ fs k))) → inB X scope (fun Y => PE Y vx (liftE X.w X.K WN (wpE Γ fs v))) → (∀ x, foldedSetIterable iter X.env x = pure x) →
    PE X (.DictComp kx vx [⟨tg, iter, ifs, 0⟩] scope pos) (liftE X.w X.K W (wpE Γ fs (.dc (own.map (·.2)) t it c k v)))
  setDc : ∀ {W : WX} {Γ : List DSp} {fs : List (Str × D)} {kx vx tg iter : Expr} {ifs : List Expr} {scope : Scope} {own : List (Str × Nat)} {pos py spos : Pos} {t : IT} {it : II} {c : IB} {k v : IE} {i : Nat} {y : Str}, X.calm = true → X.N.Nodup → X.N[i]? = some y → X.env.scope.names.lookup y = some .local →
    swapsWith (.DictComp kx vx [⟨tg, iter, ifs, 0⟩] scope pos) (some (.Name y py)) spos.line X.env = pure true → PI X tg iter (liftI X.w X.K W (wpI Γ fs it)) → BlkOk X.N X.env.scope scope own →
    inB X scope (fun Y => PG Y tg (liftG X.K (own.map (·.2)) (wpT t))) → inB X scope (fun Y => PTs Y ifs (liftB X.w X.K WN (wpB Γ fs c))) → inB X scope (fun Y => PE Y kx (liftE X.w X.K WN (wpE Γ fs k))) → inB X scope (fun Y => PE Y vx (liftE X.w X.K WN (wpE Γ fs v))) → (∀ x, foldedSetIterable iter X.env x = pure x) →
    PS X (.Assign [.Name y py] (.DictComp kx vx [⟨tg, iter, ifs, 0⟩] scope pos) spos) (liftS X.w X.K W (wpS Γ fs (.asg (.nam i) (.dc (own.map (·.2)) t it c k v))))
  mt : ∀ {W : WX} {Γ : List DSp} {fs : List (Str × D)} {m : Me} {o e : Expr} {es : List Expr} {a : IE} {as : IEs} {apos cpos : Pos}, m ∈ [Me.update, .get1, .get2] → PE X o (liftE X.w X.K W (wpE Γ fs a)) → PA X (e :: es) (liftEs X.w X.K W (es.length + 1) (wpEs Γ fs as)) →
    attributeBase o m.nm X.env (eval o X.env) = eval o X.env →
    ((backTo cpos (starEach (e :: es) X.env)).all (fun x => !x.1) && (backToKw cpos (keywordEach [] X.env)).all (fun x => x.1.isSome) && decide ((e :: es).length + ([] : List Keyword).length + (if ([] : List Keyword).isEmpty then 0 else 1) < 30)) = true →
    (apos.endLine == cpos.line) = true → starEach (e :: es) X.env = (false, eval e X.env) :: starEach es X.env → (backTo cpos (starEach es X.env)).any (·.1) = false →
    PE X (.Call (.Attribute o m.nm apos) (e :: es) [] cpos) (liftE X.w X.K W (wpE Γ fs (.mt m a as)))
  items : ∀ {W : WX} {Γ : List DSp} {fs : List (Str × D)} {o : Expr} {a : IE} {apos cpos tpos : Pos} {elts : List Expr} {kk : Nat}, PE X o (liftE X.w X.K W (wpE Γ fs a)) → attributeBase o "items" X.env (eval o X.env) = eval o X.env → (apos.endLine == cpos.line) = true →
    PI X (.Tuple elts kk tpos) (.Call (.Attribute o "items" apos) [] [] cpos) (liftI X.w X.K W (wpI Γ fs (.items a)))
/-- what is known of the module, whatever runs -/
structure Glob (C : CC) (Γ : List DSp) (P : Program) (w : World) (K : PySem.W.Frag) (mg : Str → Option Value) (base : Heap) (k : Nat) : Prop where
  fns : ∀ (i : Nat) (x : Str), C.fns[i]? = some x → ∃ (f : Addr) (fd : FuncData) (ps : List Str) (sp : DSp), Γ[i]? = some sp ∧ FnOkG P w K mg base (L2.CX P w) k f fd ps (liftSp w K sp) ∧ mg x = some (.ref f) ∧ PySem.W.keepIn K (.ref f) = true ∧ Binds K fd ps []
  consts : ∀ x d, C.consts.lookup x = some d → ∃ u v, mg x = some u ∧ RelV v u ∧ ∀ H, RD K H d v
  bi : ∀ x ∈ biNames, mg x = none
structure Good (C : CC) (Γ : List DSp) (k : Nat) (sc : Scope) (fx : Str → Bool) (X : Cx) (W : WX) : Prop where
  N : X.N = C.N
  nd : C.N.Nodup
  sc : X.env.scope = sc
  fx : X.fn = fx
  calm : X.calm = true
  tk : Takes X W
  room : Room k X.A
  gd : X.A.guards = some []
  glob : Glob C Γ X.prog X.w X.K X.mg X.base k
theorem takesN {X : Cx} (h : X.xe = fun _ _ => False) : Takes X WN := fun u s' ⟨_, _, _, _, _, _, _, _, _, _, _, _, _, _, _, _, w⟩ => w.elim
theorem Good.blk {C : CC} {Γ : List DSp} {k : Nat} {sc : Scope} {fx : Str → Bool} {X : Cx} {W : WX} (g : Good C Γ k sc fx X W) {scope : Scope} (s : Shared) (H : Hp) (Ca : Addr) (cl : List (Str × Addr)) (fp : List Addr) :
    Good C Γ k (relS scope sc) (fnB scope) (X.blk s H scope (compEnvC scope cl Ca X.env) fp) WN where
  N := g.N
  nd := g.nd
  sc := by show relS scope X.env.scope = _; rw [g.sc]
  fx := rfl
  calm := g.calm
  tk := takesN rfl
  room := g.room
  gd := g.gd
  glob := g.glob
theorem ixOf_get : ∀ {l : List Str} {x : Str} {i : Nat}, ixOf x l = some i → l[i]? = some x
  | [], _, _, h => by cases h
  | y :: r, x, i, h => by
    unfold ixOf at h
    split at h
    · rename_i e; subst e; cases h; rfl
    · cases q : ixOf x r with
      | none => rw [q] at h; cases h
      | some j => rw [q] at h; cases h; simpa using ixOf_get q
theorem bad_dbg {x : Str} (h : badNm x = false) : (x == ("__debug__" : Str)) = false ∧ (x == ("__classdict__" : Str)) = false ∧ x ≠ "__name__" := by
  unfold badNm at h
  simp only [Bool.or_eq_false_iff] at h
  exact ⟨h.1, h.2.1, by simpa using h.2.2⟩
theorem gl_of {sc : Scope} {x : Str} (h : isGl sc x = true) : sc.names.lookup x = some .globalImplicit ∧ (x == ("__debug__" : Str)) = false ∧ (x == ("__classdict__" : Str)) = false ∧ x ≠ "__name__" := by
  unfold isGl at h
  simp only [Bool.and_eq_true, decide_eq_true_eq, Bool.not_eq_true'] at h
  exact ⟨h.1, bad_dbg h.2⟩
section
variable {C : CC} {Γ : List DSp} {k : Nat} {sc : Scope} {fx : Str → Bool} {X : Cx} {W : WX} {fs : List (Str × D)}
theorem Good.gl (g : Good C Γ k sc fx X W) {x : Str} (h : sc.names.lookup x = some .globalImplicit) : Gl X x := by
  show X.env.scope.names.lookup x = _
  rw [g.sc]; exact h
theorem g_var (g : Good C Γ k sc fx X W) {x : Str} {i : Nat} {pos : Pos} (hb : badNm x = false) (hi : ixOf x C.N = some i) (hv : sc.names.lookup x = some .local ∨ sc.names.lookup x = some .cell ∨ sc.names.lookup x = some .free) : PE X (.Name x pos) (liftE X.w X.K W (wpE Γ fs (.var i))) :=
  e_var (pe_var (by rw [g.N]; exact ixOf_get hi) (by unfold Vis; rw [g.sc]; exact hv) (bad_dbg hb).1 (bad_dbg hb).2.1)
theorem g_con (g : Good C Γ k sc fx X W) {x : Str} {d : D} {pos : Pos} (hb : badNm x = false) (hg : sc.names.lookup x = some .globalImplicit) (h : C.consts.lookup x = some d) : PE X (.Name x pos) (liftE X.w X.K W (wpE Γ fs (.con d))) := by
  obtain ⟨u, v, hm, r, rd⟩ := g.glob.consts x d h
  exact e_con (pe_glob (g.gl hg) hm r (bad_dbg hb).1) rd
theorem star_of {e : Expr} (h : noStar1 e = true) (es : List Expr) (env : PySem.Env) : starEach (e :: es) env = (false, eval e env) :: starEach es env := by
  cases e <;> first | rfl | cases h
/-- no star among them -/
def noStars (es : List Expr) : Prop := ∀ e ∈ es, noStar1 e = true
theorem star_any : ∀ {es : List Expr}, noStars es → ∀ (pos : Pos) (env : PySem.Env), (backTo pos (starEach es env)).any (·.1) = false
  | [], _, _, _ => rfl
  | e :: r, h, pos, env => by
    rw [star_of (h e List.mem_cons_self)]
    show (false || (backTo pos (starEach r env)).any (·.1)) = false
    rw [star_any (fun x hx => h x (List.mem_cons_of_mem _ hx))]; rfl
theorem star_all : ∀ {es : List Expr}, noStars es → ∀ (pos : Pos) (env : PySem.Env), (backTo pos (starEach es env)).all (fun x => !x.1) = true
  | [], _, _, _ => rfl
  | e :: r, h, pos, env => by
    rw [star_of (h e List.mem_cons_self)]
    show (true && (backTo pos (starEach r env)).all (fun x => !x.1)) = true
    rw [star_all (fun x hx => h x (List.mem_cons_of_mem _ hx))]; rfl
theorem abase_of {o : Expr} {m : Str} {env : PySem.Env} {whole : Sem Value} (h : noCall o = true) : attributeBase o m env whole = whole := by
  cases o <;> first | rfl | cases h
theorem pix_of {i : Expr} (h : noSlice i = true) : PlainIx i := by
  intro o j
  cases i <;> first | rfl | cases h
theorem set_of {e : Expr} (h : noSet e = true) (op : CmpOp) : behindInMarks op e = false := by
  cases e <;> first | rfl | cases h
theorem fset_of {e : Expr} (h : noSet e = true) (env : PySem.Env) (x : Value) : foldedSetIterable e env x = pure x := by
  cases e <;> first | rfl | cases h
theorem op_all {op : Operator} (h : opOk op = true) : OpR X (binaryOp op) (liftR X.w X.K (opD op)) := by
  cases op <;> first | exact op_add' | exact op_sub' | exact op_mul' | exact op_fdiv' | exact op_mod' | exact op_pow' | cases h
theorem cmp_all (hd : DctAll X) (hu : X.A.units + 64 < cLine) (op : CmpOp) : OpR X (compareOp op) (liftR X.w X.K (cmpV op)) := by
  cases op <;> first | exact op_eq' hu | exact op_ne' hu | exact op_is' | exact op_isnt' | exact op_lt' | exact op_le' | exact op_gt' | exact op_ge' | exact hd.inn | exact hd.nin
theorem Good.units (g : Good C Γ k sc fx X W) : X.A.units + 64 < cLine := by have := g.room.un; omega
theorem own_blk {scope : Scope} {own : List (Str × Nat)} (h : blkC C.N sc scope own = true) (g : Good C Γ k sc fx X W) : BlkOk X.N X.env.scope scope own := by rw [g.N, g.sc]; exact blkOk_by h
theorem boot_bi : ∀ b : Bi, bootBuiltins b.nm = some b.vl := by
  intro b
  cases b <;> kernel_rfl
theorem c_bi (hc : X.calm = true) (hd : DctAll X) : ∀ b : Bi, b ≠ .dict0 → CallR X b.vl (liftCall X b)
  | .len, _ => hd.bi hc _ (by decide) | .tuple, _ => c_tuple | .list, _ => hd.bi hc _ (by decide) | .dict, _ => hd.bi hc _ (by decide) | .sorted, _ => hd.bi hc _ (by decide) | .repr, _ => hd.bi hc _ (by decide)
  | .dict0, h => absurd rfl h
  | .all, _ => c_all hc | .any, _ => c_any hc | .sum, _ => c_sum hc | .min1, _ => c_min1 hc | .max1, _ => c_max1 hc | .min2, _ => c_min2 hc | .max2, _ => c_max2 hc | .abs, _ => c_abs | .int, _ => c_int | .str, _ => c_str
theorem biOf_ok {x : Str} {n : Nat} {b : Bi} (h : biOf x n = some b) : x = b.nm ∧ b ≠ .dict0 ∧ n ≠ 0 ∧ b.nm ∈ biNames := by
  unfold biOf at h
  cases q : biTab.find? fun p => p.1 == x && p.2.1 == n with
  | none => rw [q] at h; cases h
  | some p =>
    rw [q] at h
    have e : p.2.2 = b := by simpa using h
    have h1 := List.find?_some q
    have h2 := List.mem_of_find?_eq_some q
    simp only [Bool.and_eq_true, beq_iff_eq] at h1
    have key : ∀ p ∈ biTab, p.1 = p.2.2.nm ∧ p.2.2 ≠ .dict0 ∧ p.2.1 ≠ 0 ∧ p.2.2.nm ∈ biNames := by decide
    obtain ⟨k1, k2, k3, k4⟩ := key p h2
    subst e
    exact ⟨h1.1.symm.trans k1, k2, by rw [← h1.2]; exact k3, k4⟩
end
end TA
set_option Elab.async false
set_option linter.all false
set_option maxRecDepth 100000
set_option maxHeartbeats 4000000
/-! TA12c: the reading is right: expressions. -/
namespace TA
open PySem PySem.Spec L2
section
variable {C : CC} {Γ : List DSp} {k : Nat}
theorem cE_star {n : Nat} {sc : Scope} {fx : Str → Bool} {e : Expr} {ir : IE} (h : cE C n sc fx e = some ir) : noStar1 e = true := by
  cases n with
  | zero => simp [cE] at h
  | succ n => cases e <;> first | rfl | (simp [cE] at h)
theorem cEs_star : ∀ {n : Nat} {sc : Scope} {fx : Str → Bool} {es : List Expr} {ir : IEs}, cEs C n sc fx es = some ir → noStars es
  | 0, _, _, _, _, h => by simp [cEs] at h
  | n + 1, sc, fx, [], _, h => fun e he => by cases he
  | n + 1, sc, fx, e :: r, ir, h => by
    simp only [cEs, Option.bind_eq_some_iff, Option.map_eq_some_iff] at h
    obtain ⟨x, hx, y, hy, _⟩ := h
    intro e' he
    rcases List.mem_cons.mp he with rfl | he
    · exact cE_star hx
    · exact cEs_star hy e' he
structure OkN (C : CC) (Γ : List DSp) (k : Nat) (n : Nat) : Prop where
  e : ∀ {sc fx e ir}, cE C n sc fx e = some ir → ∀ {X W fs}, Good C Γ k sc fx X W → PE X e (liftE X.w X.K W (wpE Γ fs ir))
  es : ∀ {sc fx es ir}, cEs C n sc fx es = some ir → ∀ {X W fs}, Good C Γ k sc fx X W → PA X es (liftEs X.w X.K W es.length (wpEs Γ fs ir))
  o : ∀ {sc fx e ir}, cO C n sc fx e = some ir → ∀ {X W fs}, Good C Γ k sc fx X W → PartE X W Γ fs e ir
  v : ∀ {sc fx b es ir}, cV C n sc fx b es = some ir → ∀ {X W fs pos}, Good C Γ k sc fx X W → PE X (.BoolOp (if b = true then .And else .Or) es pos) (liftE X.w X.K W (wpE Γ fs ir))
  b : ∀ {sc fx e ir}, cB C n sc fx e = some ir → ∀ {X W fs}, Good C Γ k sc fx X W → PT X e (liftB X.w X.K W (wpB Γ fs ir))
  w : ∀ {sc fx b es ir}, cW C n sc fx b es = some ir → ∀ {X W fs pos}, Good C Γ k sc fx X W → PW X (.BoolOp (if b = true then .And else .Or) es pos) (liftB X.w X.K W (wpB Γ fs ir))
  f : ∀ {sc fx es ir}, cF C n sc fx es = some ir → ∀ {X W fs}, Good C Γ k sc fx X W → PTs X es (liftB X.w X.K W (wpB Γ fs ir))
  i : ∀ {sc fx tg e ir}, cI C n sc fx tg e = some ir → ∀ {X W fs}, Good C Γ k sc fx X W → PI X tg e (liftI X.w X.K W (wpI Γ fs ir)) ∧ ∀ env x, foldedSetIterable e env x = pure x
  g : ∀ {sc fx vs e ir}, cG C n sc fx vs e = some ir → ∀ {X W}, Good C Γ k sc fx X W → PG X e (liftG X.K vs (wpT ir)) ∧ noStar1 e = true
  gs : ∀ {sc fx vs es ir}, cGs C n sc fx vs es = some ir → ∀ {X W}, Good C Γ k sc fx X W → PGs X es (liftGs X.K es.length vs (wpTs ir)) ∧ (assignEach es X.env).length = es.length ∧ (assignEach es X.env).findIdx? (·.1) = none ∧ itsLen ir = es.length
theorem ok_zero : OkN C Γ k 0 where
  e := fun h => by simp [cE] at h
  es := fun h => by simp [cEs] at h
  o := fun h => by simp [cO] at h
  v := fun h => by simp [cV] at h
  b := fun h => by simp [cB] at h
  w := fun h => by simp [cW] at h
  f := fun h => by simp [cF] at h
  i := fun h => by simp [cI] at h
  g := fun h => by simp [cG] at h
  gs := fun h => by simp [cGs] at h
variable {n : Nat}
theorem ok_es (ih : OkN C Γ k n) {sc fx es ir} (h : cEs C (n + 1) sc fx es = some ir) {X W fs} (g : Good C Γ k sc fx X W) : PA X es (liftEs X.w X.K W es.length (wpEs Γ fs ir)) := by
  cases es with
  | nil => simp only [cEs, Option.some.injEq] at h; subst h; exact a_nil
  | cons e r =>
    simp only [cEs, Option.bind_eq_some_iff, Option.map_eq_some_iff] at h
    obtain ⟨x, hx, y, hy, rfl⟩ := h
    exact a_cons (ih.e hx g) (ih.es hy g) (star_of (cE_star hx) _ _)
theorem ok_o (ih : OkN C Γ k n) {sc fx e ir} (h : cO C (n + 1) sc fx e = some ir) {X W fs} (g : Good C Γ k sc fx X W) : PartE X W Γ fs e ir := by
  cases e with
  | none => simp only [cO, Option.some.injEq] at h; subst h; exact part_none
  | some e => simp only [cO] at h; exact part_some (ih.e h g)
theorem ok_v (ih : OkN C Γ k n) {sc fx b es ir} (h : cV C (n + 1) sc fx b es = some ir) {X W fs pos} (g : Good C Γ k sc fx X W) : PE X (.BoolOp (if b = true then .And else .Or) es pos) (liftE X.w X.K W (wpE Γ fs ir)) := by
  match es, h with
  | [], h => simp [cV] at h
  | [e], h => simp only [cV] at h; exact e_one (ih.e h g)
  | e :: f :: r, h =>
    simp only [cV, Option.bind_eq_some_iff, Option.map_eq_some_iff] at h
    obtain ⟨x, hx, y, hy, rfl⟩ := h
    cases b with
    | true => exact e_and (ih.e hx g) (by simpa using ih.v hy g)
    | false => exact e_or (ih.e hx g) (by simpa using ih.v hy g)
theorem ok_w (ih : OkN C Γ k n) {sc fx b es ir} (h : cW C (n + 1) sc fx b es = some ir) {X W fs pos} (g : Good C Γ k sc fx X W) : PW X (.BoolOp (if b = true then .And else .Or) es pos) (liftB X.w X.K W (wpB Γ fs ir)) := by
  match es, h with
  | [], h => simp [cW] at h
  | [e], h => simp only [cW] at h; exact w_one (ih.b h g)
  | e :: f :: r, h =>
    simp only [cW, Option.bind_eq_some_iff, Option.map_eq_some_iff] at h
    obtain ⟨x, hx, y, hy, rfl⟩ := h
    cases b with
    | true => exact w_and (ih.b hx g) (by simpa using ih.w hy g)
    | false => exact w_or (ih.b hx g) (by simpa using ih.w hy g)
theorem ok_f (ih : OkN C Γ k n) {sc fx es ir} (h : cF C (n + 1) sc fx es = some ir) {X W fs} (g : Good C Γ k sc fx X W) : PTs X es (liftB X.w X.K W (wpB Γ fs ir)) := by
  match es, h with
  | [], h => simp only [cF, Option.some.injEq] at h; subst h; exact b_yes
  | [e], h => simp only [cF] at h; exact pts_one (ih.b h g)
  | e :: f :: r, h => simp [cF] at h
theorem ok_g (ih : OkN C Γ k n) {sc fx vs e ir} (h : cG C (n + 1) sc fx vs e = some ir) {X W} (g : Good C Γ k sc fx X W) : PG X e (liftG X.K vs (wpT ir)) ∧ noStar1 e = true := by
  cases e with
  | Name x pos =>
    simp only [cG] at h
    split at h
    · cases h
    · rename_i hb
      simp only [Bool.not_eq_true] at hb
      simp only [Option.bind_eq_some_iff] at h
      obtain ⟨i, hi, h⟩ := h
      split at h
      · rename_i hv
        have hN : X.N[i]? = some x := by rw [g.N]; exact ixOf_get hi
        split at h
        · rename_i hk
          cases h
          exact ⟨g_nam (by rw [g.N]; exact g.nd) hN (by unfold L2.Loc; rw [g.sc]; exact .inl hk) (.inr (by rw [g.sc]; exact hk)) hv, rfl⟩
        · rename_i hk
          split at h
          · rename_i hf
            cases h
            exact ⟨g_nam (by rw [g.N]; exact g.nd) hN (by unfold L2.Loc; rw [g.sc]; exact .inr hk) (.inl (by rw [g.fx]; exact hf)) hv, rfl⟩
          · cases h
        · cases h
      · cases h
  | Tuple es kk pos =>
    simp only [cG, Option.map_eq_some_iff] at h
    obtain ⟨ts, hts, rfl⟩ := h
    obtain ⟨h1, h2, h3, h4⟩ := ih.gs hts g
    exact ⟨g_tup g.calm h1 h2 h3 fun ds σ P hw => by rw [(wpTs_ex _ hw).1, h4], rfl⟩
  | _ => simp [cG] at h
theorem as_star {e : Expr} (h : noStar1 e = true) (es : List Expr) (env : PySem.Env) : assignEach (e :: es) env = (false, assign e env) :: assignEach es env := by
  cases e <;> first | rfl | cases h
theorem ok_gs (ih : OkN C Γ k n) {sc fx vs es ir} (h : cGs C (n + 1) sc fx vs es = some ir) {X W} (g : Good C Γ k sc fx X W) : PGs X es (liftGs X.K es.length vs (wpTs ir)) ∧ (assignEach es X.env).length = es.length ∧ (assignEach es X.env).findIdx? (·.1) = none ∧ itsLen ir = es.length := by
  cases es with
  | nil => simp only [cGs, Option.some.injEq] at h; subst h; exact ⟨gs_nil, rfl, rfl, rfl⟩
  | cons e r =>
    simp only [cGs, Option.bind_eq_some_iff, Option.map_eq_some_iff] at h
    obtain ⟨x, hx, y, hy, rfl⟩ := h
    obtain ⟨h1, h2⟩ := ih.g hx g
    obtain ⟨h3, h4, h5, h6⟩ := ih.gs hy g
    refine ⟨gs_cons h1 h3 (by rw [as_star h2]; rfl), by rw [as_star h2]; simp [h4], ?_, by simp [itsLen, h6]⟩
    rw [as_star h2, List.findIdx?_cons]
    simp [h5]
end
end TA
set_option Elab.async false
set_option linter.all false
set_option maxRecDepth 100000
set_option maxHeartbeats 4000000
/-! TA12d: the reading is right: tests, what is walked, expressions. -/
namespace TA
open PySem PySem.Spec L2
section
variable {C : CC} {Γ : List DSp} {k : Nat} {n : Nat}
theorem Good.units65 {sc fx X W} (g : Good C Γ k sc fx X W) : X.A.units + 65 < cLine := by have := g.room.un; omega
theorem Good.units70 {sc fx X W} (g : Good C Γ k sc fx X W) : X.A.units + 70 < cLine := by have := g.room.un; omega
/-- the dicts, wherever -/
def DctEvery : Prop := ∀ X : Cx, X.A.units + 70 < cLine → X.A.guards = some [] → DctAll X
theorem last2 {o1 o2 : CmpOp} {b c : Expr} (h : noSet c = true) : lastMarks [o1, o2] [b, c] = false := by
  show lastMarks [o2] [c] = false
  exact set_of h o2
theorem ok_b (dct : DctEvery) (ih : OkN C Γ k n) {sc fx e ir} (h : cB C (n + 1) sc fx e = some ir) {X W fs} (g : Good C Γ k sc fx X W) : PT X e (liftB X.w X.K W (wpB Γ fs ir)) := by
  have cmp := cmp_all (dct X g.units70 g.gd) g.units
  unfold cB at h
  split at h
  · simp only [Option.map_eq_some_iff] at h
    obtain ⟨x, hx, rfl⟩ := h
    exact b_not (ih.b hx g)
  · have := ih.w (pos := ‹Pos›) (fs := fs) h g
    exact PW.pt (by simpa using this)
  · have := ih.w (pos := ‹Pos›) (fs := fs) h g
    exact PW.pt (by simpa using this)
  · split at h
    · rename_i hc
      simp only [Bool.and_eq_true, decide_eq_true_eq] at hc
      simp only [Option.bind_eq_some_iff, Option.map_eq_some_iff] at h
      obtain ⟨x, hx, y, hy, rfl⟩ := h
      exact b_cmp (cmp _) (ih.e hx g) (ih.e hy g) (set_of hc.2 _)
    · cases h
  · split at h
    · rename_i hc
      simp only [Bool.and_eq_true, decide_eq_true_eq] at hc
      simp only [Option.bind_eq_some_iff, Option.map_eq_some_iff] at h
      obtain ⟨x, hx, y, hy, z, hz, rfl⟩ := h
      exact b_cmp2 (cmp _) (cmp _) (ih.e hx g) (ih.e hy g) (ih.e hz g) (last2 hc.2.2)
    · cases h
  all_goals first
    | (simp only [Option.map_eq_some_iff] at h
       obtain ⟨x, hx, rfl⟩ := h
       exact b_tr (ih.e hx g) fun _ => rfl)
    | cases h
theorem ok_i (dct : DctEvery) (ih : OkN C Γ k n) {sc fx tg e ir} (h : cI C (n + 1) sc fx tg e = some ir) {X W fs} (g : Good C Γ k sc fx X W) : PI X tg e (liftI X.w X.K W (wpI Γ fs ir)) ∧ ∀ env x, foldedSetIterable e env x = pure x := by
  have dd := dct X g.units70 g.gd
  unfold cI at h
  split at h
  · rename_i x p args pos
    refine ⟨?_, fun _ _ => rfl⟩
    split at h
    · rename_i hg
      obtain ⟨hgl, hdb, _, hn⟩ := gl_of hg
      split at h
      · rename_i hx
        subst hx
        have hm : X.mg "range" = none := g.glob.bi _ (by decide)
        split at h
        · rename_i hl
          simp only [Option.map_eq_some_iff] at h
          obtain ⟨as, has, rfl⟩ := h
          have hs := cEs_star has
          have pa := ih.es (fs := fs) has g
          match args, hl, hs, pa with
          | [a], _, hs, pa => exact i_rng1 (g.gl hgl) hm pa (star_of (hs a (by simp)) _ _)
          | [a, b], _, hs, pa => exact i_rng2 (g.gl hgl) hm pa (by rw [star_of (hs a (by simp)), star_of (hs b (by simp))]; rfl) (star_of (hs b (by simp)) _ _)
          | [a, b, c], _, hs, pa => exact i_rng3 (g.gl hgl) hm pa (star_of (hs a (by simp)) _ _) (star_any (fun e he => hs e (List.mem_cons_of_mem _ he)) _ _)
          | [], hl, _, _ => simp at hl
          | _ :: _ :: _ :: _ :: _, hl, _, _ => simp at hl
        · cases h
      · split at h
        · rename_i hx
          subst hx
          split at h
          · simp only [Option.map_eq_some_iff] at h
            obtain ⟨y, hy, rfl⟩ := h
            exact i_enu (g.gl hgl) (g.glob.bi _ (by decide)) (by kernel_rfl) hn hdb (ih.e hy g) (star_of (cE_star hy) _ _)
          · cases h
        · split at h
          · rename_i hx
            subst hx
            split at h
            · simp only [Option.bind_eq_some_iff, Option.map_eq_some_iff] at h
              obtain ⟨y, hy, z, hz, rfl⟩ := h
              exact i_zip (g.gl hgl) (g.glob.bi _ (by decide)) (by kernel_rfl) hn hdb (ih.e hy g) (ih.e hz g) (star_of (cE_star hy) _ _) (star_of (cE_star hz) _ _) (star_any (fun e he => by rw [List.mem_singleton.mp he]; exact cE_star hz) _ _)
            · cases h
          · simp only [Option.map_eq_some_iff] at h
            obtain ⟨y, hy, rfl⟩ := h
            exact i_ev dd.it (ih.e hy g)
    · cases h
  · rename_i o m ap args cp
    refine ⟨?_, fun _ _ => rfl⟩
    split at h
    · rename_i hm
      subst hm
      split at h
      · split at h
        · rename_i hc
          simp only [Bool.and_eq_true] at hc
          simp only [Option.map_eq_some_iff] at h
          obtain ⟨y, hy, rfl⟩ := h
          exact dd.items (ih.e hy g) (abase_of hc.1) hc.2
        · cases h
      · cases h
    · simp only [Option.map_eq_some_iff] at h
      obtain ⟨y, hy, rfl⟩ := h
      exact i_ev dd.it (ih.e hy g)
  · cases h
  · rename_i h1 h2 h3
    simp only [Option.map_eq_some_iff] at h
    obtain ⟨y, hy, rfl⟩ := h
    refine ⟨i_ev dd.it (ih.e hy g), fun env x => ?_⟩
    refine fset_of ?_ env x
    cases tg <;> cases e <;> first | rfl | (exfalso; exact h3 _ _ _ rfl)
end
end TA
set_option Elab.async false
set_option linter.all false
set_option maxRecDepth 100000
set_option maxHeartbeats 4000000
/-! TA12e: the reading is right: expressions. -/
namespace TA
open PySem PySem.Spec L2
section
variable {C : CC} {Γ : List DSp} {k : Nat} {n : Nat}
theorem cI_set {n : Nat} {sc fx tg e ir} (h : cI C n sc fx tg e = some ir) : noSet e = true := by
  cases n with
  | zero => simp [cI] at h
  | succ n => cases e <;> first | rfl | (simp [cI] at h)
theorem m_lst {X : Cx} {W : WX} {fs : List (Str × D)} {o e : Expr} {es : List Expr} {a : IE} {as : IEs} {apos cpos : Pos} (ho : PE X o (liftE X.w X.K W (wpE Γ fs a))) (ha : PA X (e :: es) (liftEs X.w X.K W (es.length + 1) (wpEs Γ fs as)))
    (hbase : attributeBase o "append" X.env (eval o X.env) = eval o X.env)
    (hfew : ((backTo cpos (starEach (e :: es) X.env)).all (fun x => !x.1) && (backToKw cpos (keywordEach [] X.env)).all (fun x => x.1.isSome)
      && decide ((e :: es).length + ([] : List Keyword).length + (if ([] : List Keyword).isEmpty then 0 else 1) < 30)) = true)
    (hline : (apos.endLine == cpos.line) = true) (hs : starEach (e :: es) X.env = (false, eval e X.env) :: starEach es X.env) (hplain : (backTo cpos (starEach es X.env)).any (·.1) = false) :
    PE X (.Call (.Attribute o "append" apos) (e :: es) [] cpos) (liftE X.w X.K W (wpE Γ fs (.mt .append a as))) :=
  e_mt tyR_list F.plainAttrs_list F.slot_list_append F.type_list_append m_append (fun rs r h => recv_list (.inl rfl) rs r h) ho ha hbase hfew hline hs hplain
theorem m_pop0 {X : Cx} {W : WX} {fs : List (Str × D)} {o : Expr} {a : IE} {apos cpos : Pos} (ho : PE X o (liftE X.w X.K W (wpE Γ fs a))) (hbase : attributeBase o "pop" X.env (eval o X.env) = eval o X.env) (hline : (apos.endLine == cpos.line) = true) :
    PE X (.Call (.Attribute o "pop" apos) [] [] cpos) (liftE X.w X.K W (wpE Γ fs (.mt .pop a .nil))) :=
  e_mt0 tyR_list F.plainAttrs_list F.slot_list_pop F.type_list_pop m_pop (fun rs r h => recv_list (.inr rfl) rs r h) ho hbase hline
theorem meOf_ok {x : Str} {n : Nat} {m : Me} (h : meOf x n = some m) : x = m.nm ∧ m ∈ [Me.append, .pop, .update, .get1, .get2] ∧ (n = 0 ↔ m = .pop) ∧ n ≤ 2 := by
  unfold meOf at h
  cases q : meTab.find? fun p => p.1 == x && p.2.1 == n with
  | none => rw [q] at h; cases h
  | some p =>
    rw [q] at h
    have e : p.2.2 = m := by simpa using h
    have h1 := List.find?_some q
    have h2 := List.mem_of_find?_eq_some q
    simp only [Bool.and_eq_true, beq_iff_eq] at h1
    have key : ∀ p ∈ meTab, p.1 = p.2.2.nm ∧ p.2.2 ∈ [Me.append, .pop, .update, .get1, .get2] ∧ (p.2.1 = 0 ↔ p.2.2 = .pop) ∧ p.2.1 ≤ 2 := by decide
    obtain ⟨k1, k2, k3, k4⟩ := key p h2
    subst e
    rw [← h1.2]
    exact ⟨h1.1.symm.trans k1, k2, k3, k4⟩
theorem ty_boot {x : Str} {t : Ty} (h : tyTab.lookup x = some t) : x = t.st ∧ t.st ∈ biNames := by
  have key : ∀ p ∈ tyTab, p.1 = p.2.st ∧ p.2.st ∈ biNames := by decide
  exact key (x, t) (PySem.mem_of_lookup h)
theorem boot_ty : ∀ t : Ty, bootBuiltins t.st = some (.type t.nm) := by
  intro t
  cases t <;> kernel_rfl
theorem few_of {e : Expr} {es : List Expr} {pos : Pos} {env : PySem.Env} (h : noStars (e :: es)) (hl : (e :: es).length ≤ 2) : ((backTo pos (starEach (e :: es) env)).all (fun x => !x.1) && (backToKw pos (keywordEach [] env)).all (fun x => x.1.isSome)
      && decide ((e :: es).length + ([] : List Keyword).length + (if ([] : List Keyword).isEmpty then 0 else 1) < 30)) = true := by
  rw [star_all h]
  simp only [Bool.true_and]
  have : (backToKw pos (keywordEach [] env)).all (fun x => x.1.isSome) = true := rfl
  rw [this]
  simp at hl ⊢
  omega
theorem tl_stars {e : Expr} {es : List Expr} (h : noStars (e :: es)) : noStars es := fun x hx => h x (List.mem_cons_of_mem _ hx)
set_option maxHeartbeats 8000000 in
theorem ok_e (dct : DctEvery) (ih : OkN C Γ k n) {sc fx e ir} (h : cE C (n + 1) sc fx e = some ir) {X W fs} (g : Good C Γ k sc fx X W) : PE X e (liftE X.w X.K W (wpE Γ fs ir)) := by
  have dd := dct X g.units70 g.gd
  have cmp := cmp_all dd g.units
  have hN : X.N.Nodup := by rw [g.N]; exact g.nd
  unfold cE at h
  split at h
  · -- Name
    split at h
    · cases h
    · rename_i hb
      simp only [Bool.not_eq_true] at hb
      split at h
      · rename_i hl
        simp only [Option.map_eq_some_iff] at h
        obtain ⟨i, hi, rfl⟩ := h
        exact g_var g hb hi (.inl hl)
      · rename_i hl
        simp only [Option.map_eq_some_iff] at h
        obtain ⟨i, hi, rfl⟩ := h
        exact g_var g hb hi (.inr (.inl hl))
      · rename_i hl
        simp only [Option.map_eq_some_iff] at h
        obtain ⟨i, hi, rfl⟩ := h
        exact g_var g hb hi (.inr (.inr hl))
      · rename_i hl
        simp only [Option.map_eq_some_iff] at h
        obtain ⟨d, hd, rfl⟩ := h
        exact g_con g hb hl hd
      · cases h
  · -- Constant
    split at h
    · cases h; exact e_con pe_non fun H => rd_non.mpr rfl
    · cases h; exact e_con pe_bl fun H => rd_bl.mpr rfl
    · cases h; exact e_con pe_int fun H => rd_int.mpr rfl
    · cases h; exact e_con pe_str fun H => rd_str.mpr rfl
    · cases h
  · -- Tuple
    split at h
    · rename_i hl
      simp only [Option.map_eq_some_iff] at h
      obtain ⟨x, hx, rfl⟩ := h
      exact e_tup (ih.es hx g) (by rw [sizeLine_eq]; omega)
    · cases h
  · split at h
    · rename_i hl
      simp only [Option.map_eq_some_iff] at h
      obtain ⟨x, hx, rfl⟩ := h
      exact e_lst (ih.es hx g) (by rw [sizeLine_eq]; omega)
    · cases h
  · -- BinOp
    split at h
    · rename_i ho
      simp only [Option.bind_eq_some_iff, Option.map_eq_some_iff] at h
      obtain ⟨x, hx, y, hy, rfl⟩ := h
      exact e_bin (op_all ho) (ih.e hx g) (ih.e hy g)
    · cases h
  · simp only [Option.map_eq_some_iff] at h
    obtain ⟨x, hx, rfl⟩ := h
    exact e_nt (ih.e hx g)
  · simp only [Option.map_eq_some_iff] at h
    obtain ⟨x, hx, rfl⟩ := h
    exact e_neg (ih.e hx g)
  · have := ih.v (pos := ‹Pos›) (fs := fs) h g
    simpa using this
  · have := ih.v (pos := ‹Pos›) (fs := fs) h g
    simpa using this
  · -- Compare
    split at h
    · rename_i hc
      simp only [Bool.and_eq_true, decide_eq_true_eq] at hc
      simp only [Option.bind_eq_some_iff, Option.map_eq_some_iff] at h
      obtain ⟨x, hx, y, hy, rfl⟩ := h
      exact e_cmp (cmp _) (ih.e hx g) (ih.e hy g) (set_of hc.2 _)
    · cases h
  · split at h
    · rename_i hc
      simp only [Bool.and_eq_true, decide_eq_true_eq] at hc
      simp only [Option.bind_eq_some_iff, Option.map_eq_some_iff] at h
      obtain ⟨x, hx, y, hy, z, hz, rfl⟩ := h
      exact e_cmp2 (cmp _) (cmp _) (ih.e hx g) (ih.e hy g) (ih.e hz g) (last2 hc.2.2)
    · cases h
  · simp only [Option.bind_eq_some_iff, Option.map_eq_some_iff] at h
    obtain ⟨t, ht, x, hx, y, hy, rfl⟩ := h
    exact e_ite (ih.b ht g) (ih.e hx g) (ih.e hy g)
  · -- slices
    simp only [Option.bind_eq_some_iff, Option.map_eq_some_iff] at h
    obtain ⟨x, hx, l, hl, u, hu, rfl⟩ := h
    exact e_slc (ih.e hx g) (ih.o hl g) (ih.o hu g)
  · simp only [Option.map_eq_some_iff] at h
    obtain ⟨x, hx, rfl⟩ := h
    exact e_rev (ih.e hx g)
  · split at h
    · rename_i hs
      simp only [Option.bind_eq_some_iff, Option.map_eq_some_iff] at h
      obtain ⟨x, hx, y, hy, rfl⟩ := h
      exact e_idx dd.ix (ih.e hx g) (ih.e hy g) (pix_of hs)
    · cases h
  · -- Call of a name
    rename_i nx np args npos
    split at h
    · rename_i hg
      obtain ⟨hgl, hdb, _, hn⟩ := gl_of hg
      split at h
      · rename_i i hi
        simp only [Option.map_eq_some_iff] at h
        obtain ⟨as, has, rfl⟩ := h
        obtain ⟨f, fd, ps, sp, hΓ, F, hm, hk, hb⟩ := g.glob.fns i _ (ixOf_get hi)
        have hs := cEs_star has
        have pa := ih.es (fs := fs) has g
        match args, hs, pa, has with
        | [], hs, pa, has =>
          cases n with
          | zero => simp [cEs] at has
          | succ n =>
            simp only [cEs, Option.some.injEq] at has
            subst has
            exact e_fn0 F g.gd g.room (g.gl hgl) hm hk hb g.tk hΓ hdb
        | a :: r, hs, pa, has => exact e_fn F g.gd g.room (g.gl hgl) hm hk hb g.tk hΓ pa hdb (star_of (hs a (by simp)) _ _) (star_any (tl_stars hs) _ _)
      · split at h
        · rename_i hx
          subst hx
          split at h
          · split at h
            · rename_i ht
              obtain ⟨htl, htd, _, htn⟩ := gl_of ht
              simp only [Option.bind_eq_some_iff, Option.map_eq_some_iff] at h
              obtain ⟨ty, hty, y, hy, rfl⟩ := h
              obtain ⟨e1, e2⟩ := ty_boot hty
              subst e1
              exact e_isi (ih.e hy g) (pe_bltn (g.gl htl) (g.glob.bi _ e2) (boot_ty ty) rfl htn htd) (g.gl hgl) (g.glob.bi _ (by decide)) (by kernel_rfl) hn hdb (star_of (cE_star hy) _ _) rfl rfl
            · cases h
          · cases h
        · simp only [Option.bind_eq_some_iff, Option.map_eq_some_iff] at h
          obtain ⟨b, hb, as, has, rfl⟩ := h
          obtain ⟨e1, e2, e3, e4⟩ := biOf_ok hb
          subst e1
          have hs := cEs_star has
          have pa := ih.es (fs := fs) has g
          have hc := c_bi g.calm dd b e2
          have hv := boot_bi b
          match args, hs, pa, e3 with
          | [], _, _, e3 => exact absurd rfl e3
          | a :: r, hs, pa, _ =>
            cases hvl : b.vl with
            | builtin id => rw [hvl] at hc hv; exact e_bi hc (g.gl hgl) (g.glob.bi _ e4) hv pa hn hdb (star_of (hs a (by simp)) _ _) (star_any (tl_stars hs) _ _)
            | type id => rw [hvl] at hc hv; exact e_biT hc (g.gl hgl) (g.glob.bi _ e4) hv pa hn hdb (star_of (hs a (by simp)) _ _) (star_any (tl_stars hs) _ _)
            | _ => cases b <;> cases hvl
    · cases h
  · -- methods
    rename_i o m ap args cp
    split at h
    · rename_i hc
      simp only [Bool.and_eq_true] at hc
      simp only [Option.bind_eq_some_iff, Option.map_eq_some_iff] at h
      obtain ⟨me, hme, x, hx, as, has, rfl⟩ := h
      obtain ⟨e1, e2, e3, e4⟩ := meOf_ok hme
      subst e1
      have hs := cEs_star has
      have pa := ih.es (fs := fs) has g
      have ho := ih.e (fs := fs) hx g
      match args, hs, pa, has, e3, e4 with
      | [], hs, pa, has, e3, _ =>
        have e := e3.mp rfl
        subst e
        cases n with
        | zero => simp [cEs] at has
        | succ n =>
          simp only [cEs, Option.some.injEq] at has
          subst has
          exact m_pop0 ho (abase_of hc.1) hc.2
      | a :: r, hs, pa, has, e3, e4 =>
        have h1 := few_of (pos := cp) (env := X.env) hs e4
        have h2 := star_of (hs a (by simp)) r X.env
        have h3 := star_any (tl_stars hs) cp X.env
        simp only [List.mem_cons, List.not_mem_nil, or_false] at e2
        rcases e2 with rfl | rfl | rfl | rfl | rfl
        · exact m_lst ho pa (abase_of hc.1) h1 hc.2 h2 h3
        · exact absurd (e3.mpr rfl) (by simp)
        · exact dd.mt (by decide) ho pa (abase_of hc.1) h1 hc.2 h2 h3
        · exact dd.mt (by decide) ho pa (abase_of hc.1) h1 hc.2 h2 h3
        · exact dd.mt (by decide) ho pa (abase_of hc.1) h1 hc.2 h2 h3
    · cases h
  · -- ListComp
    split at h
    · rename_i hbk
      simp only [Option.bind_eq_some_iff, Option.map_eq_some_iff] at h
      obtain ⟨i, hi, t, ht, c, hc, e, he, rfl⟩ := h
      obtain ⟨pi, hfs⟩ := ih.i hi g
      exact e_lc g.calm hN pi (own_blk hbk g) (fun s H Ca cl fp => (ih.g ht (g.blk s H Ca cl fp)).1) (fun s H Ca cl fp => ih.f hc (g.blk s H Ca cl fp)) (fun s H Ca cl fp => ih.e he (g.blk s H Ca cl fp)) (hfs X.env)
    · cases h
  · split at h
    · rename_i hbk
      simp only [Option.bind_eq_some_iff] at h
      obtain ⟨i, hi, t, ht, c, hc, i1, hi1, t1, ht1, c1, hc1, h⟩ := h
      split at h
      · rename_i hv
        simp only [Option.map_eq_some_iff] at h
        obtain ⟨e, he, rfl⟩ := h
        obtain ⟨pi, hfs⟩ := ih.i hi g
        refine e_lc2 g.calm hN pi (own_blk hbk g) (fun i hi => of_decide_eq_true (List.all_eq_true.mp hv i hi)) (fun s H Ca cl fp => (ih.g ht (g.blk s H Ca cl fp)).1) (fun s H Ca cl fp => ih.f hc (g.blk s H Ca cl fp)) (fun s H Ca cl fp => (ih.i hi1 (g.blk s H Ca cl fp)).1)
          (fun s H Ca cl fp => (ih.g ht1 (g.blk s H Ca cl fp)).1) (fun s H Ca cl fp => ih.f hc1 (g.blk s H Ca cl fp)) (fun s H Ca cl fp => ih.e he (g.blk s H Ca cl fp)) (hfs X.env) (fset_of (cI_set hi1))
      · cases h
    · cases h
  · -- Dict
    split at h
    · cases h; exact dd.dct0
    · simp only [Option.bind_eq_some_iff, Option.map_eq_some_iff] at h
      obtain ⟨x, hx, y, hy, rfl⟩ := h
      exact dd.dct1 (ih.e hx g) (ih.e hy g)
    · cases h
  · split at h
    · rename_i hbk
      simp only [Option.bind_eq_some_iff, Option.map_eq_some_iff] at h
      obtain ⟨i, hi, t, ht, c, hc, x, hx, y, hy, rfl⟩ := h
      obtain ⟨pi, hfs⟩ := ih.i hi g
      exact dd.dc g.calm hN pi (own_blk hbk g) (fun s H Ca cl fp => (ih.g ht (g.blk s H Ca cl fp)).1) (fun s H Ca cl fp => ih.f hc (g.blk s H Ca cl fp)) (fun s H Ca cl fp => ih.e hx (g.blk s H Ca cl fp)) (fun s H Ca cl fp => ih.e hy (g.blk s H Ca cl fp)) (hfs X.env)
    · cases h
  · cases h
end
end TA
set_option Elab.async false
set_option linter.all false
set_option maxRecDepth 100000
set_option maxHeartbeats 4000000
/-! TA13a: statements of the text, read. -/
namespace TA
open PySem PySem.Spec L2
def fldsOf (c : Str) : List Str := if c = "TextError" then ["at"] else if c = "CommandError" then ["line"] else if c = "LogError" then ["number", "reason"] else ["reason"]
/-- a comprehension that the name takes over -/
def swB (sc : Scope) (y : Str) (py : Pos) (e : Expr) : Bool := match e with
  | .ListComp _ _ s p => sc.names.lookup y == some .local && py.line == p.line && !(s.names.any fun (n, k) => n == y && (k == .local || k == .cell))
  | .SetComp _ _ s p => sc.names.lookup y == some .local && py.line == p.line && !(s.names.any fun (n, k) => n == y && (k == .local || k == .cell))
  | .DictComp _ _ _ s p => sc.names.lookup y == some .local && py.line == p.line && !(s.names.any fun (n, k) => n == y && (k == .local || k == .cell))
  | _ => false
/-- a pair's stores: none: not covered; some none: one after another; some names: from the right -/
def swapP (sc : Scope) (ts vs : List Expr) : Option (Option (List Str)) :=
  if (!(ts.length == 2 || ts.length == 3) || vs.length != ts.length) = true then some none
  else if (vs.any fun | .Starred .. => true | _ => false) = true then some none
  else if ((ts.filterMap fun | .Name id pos => if sc.names.lookup id == some .local && pos.line == (ts.head?.map (·.pos.line)).getD 0 then some id else none | _ => none).length != ts.length ||
      (ts.filterMap fun | .Name id pos => if sc.names.lookup id == some .local && pos.line == (ts.head?.map (·.pos.line)).getD 0 then some id else none | _ => none).eraseDups.length != (ts.filterMap fun | .Name id pos => if sc.names.lookup id == some .local && pos.line == (ts.head?.map (·.pos.line)).getD 0 then some id else none | _ => none).length) = true then some none
  else if (vs.all (foldedForSure 8)) = true then some none
  else if (vs.all (constantsAlone 8)) = true then none
  else some (some (ts.filterMap fun | .Name id pos => if sc.names.lookup id == some .local && pos.line == (ts.head?.map (·.pos.line)).getD 0 then some id else none | _ => none))
theorem swap_eq {sc : Scope} {env : PySem.Env} {ts vs : List Expr} {k k2 : Nat} {p p2 : Pos} {r : Option (List Str)} (he : env.scope = sc) (hk : sc.kind = .function) (h : swapP sc ts vs = some r) : swappedStores [.Tuple ts k p] (.Tuple vs k2 p2) env = pure r := by
  have hb : env.blockKind = .function := by unfold Env.blockKind; rw [he, hk]; rfl
  have hko : env.kindOf = fun x => sc.names.lookup x := by funext x; show env.scope.names.lookup x = _; rw [he]
  unfold swapP at h
  unfold swappedStores
  simp only [hb, hko]
  split at h
  · rename_i c
    cases h
    rw [if_pos (by simpa using c)]
  · rename_i c
    rw [if_neg (by simpa using c)]
    split at h
    · rename_i c2
      cases h
      exact if_pos c2
    · rename_i c2
      refine (if_neg c2).trans ?_
      split at h
      · rename_i c3
        cases h
        exact if_pos c3
      · rename_i c3
        refine (if_neg c3).trans ?_
        split at h
        · rename_i c4
          cases h
          exact if_pos c4
        · rename_i c4
          refine (if_neg c4).trans ?_
          split at h
          · cases h
          · rename_i c5
            cases h
            exact if_neg c5
theorem sw_name {sc : Scope} {env : PySem.Env} {y : Str} {py : Pos} {e : Expr} {l : Nat} (he : env.scope = sc) (hk : sc.kind = .function) : swapsWith e (some (.Name y py)) l env = pure (swB sc y py e) := by
  have hb : env.blockKind = .function := by unfold Env.blockKind; rw [he, hk]; rfl
  have hko : env.kindOf = fun x => sc.names.lookup x := by funext x; show env.scope.names.lookup x = _; rw [he]
  cases e <;> first
    | rfl
    | (unfold swapsWith
       simp only [hb, hko]
       rfl)
theorem sw_tup {env : PySem.Env} {ts : List Expr} {k : Nat} {p : Pos} {e : Expr} {l : Nat} : swapsWith e (some (.Tuple ts k p)) l env = pure false := by
  cases e <;> rfl
theorem sw_sub {env : PySem.Env} {o i : Expr} {p : Pos} {e : Expr} {l : Nat} : swapsWith e (some (.Subscript o i p)) l env = pure false := by
  cases e <;> rfl
theorem sw_drop {env : PySem.Env} {e : Expr} {l : Nat} (h : noComp e = true) : swapsWith e none l env = pure false := by
  cases e <;> first | rfl | cases h
theorem st_name {env : PySem.Env} {y : Str} {py : Pos} {e : Expr} : swappedStores [.Name y py] e env = pure none := by
  cases e <;> rfl
theorem st_sub {env : PySem.Env} {o i : Expr} {p : Pos} {e : Expr} : swappedStores [.Subscript o i p] e env = pure none := by
  cases e <;> rfl
def noTup : Expr → Bool
  | .Tuple _ _ _ => false
  | _ => true
theorem st_tup {env : PySem.Env} {ts : List Expr} {k : Nat} {p : Pos} {e : Expr} (h : noTup e = true) : swappedStores [.Tuple ts k p] e env = pure none := by
  cases e <;> first | rfl | cases h
def augOk : Operator → Bool
  | .Add => true
  | .Sub => true
  | _ => false
section
variable (C : CC)
/-- an expression of an except suite: en the name of the exception -/
def cH : Nat → Option Str → Expr → Option IE
  | 0, _, _ => none
  | n + 1, en, e => match e with
    | .Constant c _ _ => match c with
      | .none => some (.con .non)
      | .bool b => some (.con (.bl b))
      | .int i => some (.con (.int i))
      | .str x => some (.con (.str x))
      | _ => none
    | .Tuple es _ _ => if es.length ≤ 1000 then (cHs n en es).map .tup else none
    | .Attribute (.Name x _) f _ => if (en == some x && decide (f ∈ fldNames)) = true then some (.efld f) else none
    | _ => none
where cHs : Nat → Option Str → List Expr → Option IEs
  | 0, _, _ => none
  | n + 1, en, es => match es with
    | [] => some .nil
    | e :: r => (cH n en e).bind fun x => (cHs n en r).map fun y => .cons x y
end
end TA
set_option Elab.async false
set_option linter.all false
set_option maxRecDepth 100000
set_option maxHeartbeats 4000000
/-! TA13b: statements of the text, read; the reading is right. -/
namespace TA
open PySem PySem.Spec L2
def fx1 : Str → Bool := fun _ => true
def ix2 (C : CC) (sc : Scope) (x : Str) : Option Nat := if badNm x = true then none else if sc.names.lookup x = some .local then ixOf x C.N else none
section
variable (C : CC)
mutual
def cS : Nat → Scope → Stmt → Option IS
  | 0, _, _ => none
  | n + 1, sc, st => match st with
    | .Expr (.Constant (.str _) _ _) _ => some .pas
    | .Expr e _ => if noComp e = true then (cE C n sc fx1 e).map .ex else none
    | .Return none _ => some (.ret (.con .non))
    | .Return (some e) _ => (cE C n sc fx1 e).map .ret
    | .Pass _ => some .pas
    | .Break _ => some .brk
    | .Continue _ => some .cnt
    | .If c a b _ => (cB C n sc fx1 c).bind fun x => (cSs n sc a).bind fun y => (cSs n sc b).map fun z => .iff x y z
    | .While c b [] _ => (cB C n sc fx1 c).bind fun x => (cSs n sc b).map fun y => .whl x y
    | .For tg it b [] _ => (cI C n sc fx1 tg it).bind fun i => (cG C n sc fx1 (List.range C.N.length) tg).bind fun t => (cSs n sc b).map fun y => .frr t i y
    | .Assign [.Name y py] e _ => if swB sc y py e = true then
        (match e with
        | .ListComp _ _ _ _ => (ix2 C sc y).bind fun i => (cE C n sc fx1 e).map fun x => .asg (.nam i) x
        | .DictComp _ _ _ _ _ => (ix2 C sc y).bind fun i => (cE C n sc fx1 e).map fun x => .asg (.nam i) x
        | _ => none)
      else (cG C n sc fx1 (List.range C.N.length) (.Name y py)).bind fun t => (cE C n sc fx1 e).map fun x => .asg t x
    | .Assign [.Tuple ts _ _] (.Tuple vs k2 p2) _ => (match swapP sc ts vs with
      | some none => (cGs C n sc fx1 (List.range C.N.length) ts).bind fun t => (cE C n sc fx1 (.Tuple vs k2 p2)).map fun x => .asg (.tup t) x
      | some (some _) => (match ts, vs with
        | [.Name x _, .Name y _], [a, b] => (ix2 C sc x).bind fun i => (ix2 C sc y).bind fun j => if i = j then none else (cE C n sc fx1 a).bind fun u => (cE C n sc fx1 b).map fun v => .asg (.tup (.cons (.nam i) (.cons (.nam j) .nil))) (.tup (.cons u (.cons v .nil)))
        | [.Name x _, .Name y _, .Name z _], [a, b, c] => (ix2 C sc x).bind fun i => (ix2 C sc y).bind fun j => (ix2 C sc z).bind fun l => if i = j ∨ i = l ∨ j = l then none else
            (cE C n sc fx1 a).bind fun u => (cE C n sc fx1 b).bind fun v => (cE C n sc fx1 c).map fun r => .asg (.tup (.cons (.nam i) (.cons (.nam j) (.cons (.nam l) .nil)))) (.tup (.cons u (.cons v (.cons r .nil))))
        | _, _ => none)
      | none => none)
    | .Assign [.Tuple ts _ _] e _ => if noTup e = true then (cGs C n sc fx1 (List.range C.N.length) ts).bind fun t => (cE C n sc fx1 e).map fun x => .asg (.tup t) x else none
    | .Assign [.Subscript o i _] e _ => if noSlice i = true then (cE C n sc fx1 o).bind fun x => (cE C n sc fx1 i).bind fun y => (cE C n sc fx1 e).map fun z => .asub x y z else none
    | .AugAssign (.Name y _) op e _ => if augOk op = true then (ix2 C sc y).bind fun i => (cE C n sc fx1 e).map fun x => .aug i op x else none
    | .Raise (some (.Call (.Name c _) args [] _)) none _ => if (isGl sc c && (decide (c ∈ C.errs) && decide ((fldsOf c).length = args.length))) = true then (cEs C n sc fx1 args).map fun as => .rse c as else none
    | .Try b hs [] [] _ => (cSs n sc b).bind fun x => (cX n sc hs).bind fun y => match hs with
      | [] => none
      | _ => some (.trn x y)
    | _ => none
def cSs : Nat → Scope → List Stmt → Option ISs
  | 0, _, _ => none
  | n + 1, sc, ss => match ss with
    | [] => some .nil
    | s :: r => (cS n sc s).bind fun x => (cSs n sc r).map fun y => .cons x y
def cX : Nat → Scope → List ExceptHandler → Option IHs
  | 0, _, _ => none
  | n + 1, sc, hs => match hs with
    | [] => some .nil
    | .ExceptHandler (some (.Name c _)) en [.Return (some e) _] _ :: r => if (isGl sc c && decide (c ∈ C.errs)) = true then
        (match en with
        | none => (cH n none e).bind fun x => (cX n sc r).map fun y => .cons c none (.cons (.ret x) .nil) y
        | some nm => (ix2 C sc nm).bind fun i => (cH n (some nm) e).bind fun x => (cX n sc r).map fun y => .cons c (some i) (.cons (.ret x) .nil) y)
      else none
    | _ => none
end
end
/-- what is known of a class of errors -/
structure ErrG (P : Program) (w : World) (K : PySem.W.Frag) (mg : Str → Option Value) (base : Heap) (c : Str) : Prop where
  ns : PySem.W.nsIn K mainGlobals c = some (some (.ref (clA K c)))
  glob : mg c = some (.ref (clA K c))
  known : KnownC K c
  ex : ∃ (fI cc D : Addr) (fd : FuncData) (self : Str), ClsS K (clA K c) D ∧ (∀ f ∈ fldsOf c, PySem.W.findIn K (.ref (clA K c)) f = some none) ∧ PySem.W.findIn K (.ref (clA K c)) "__init__" = some (some (.ref fI)) ∧ PySem.W.typeIn K (.ref fI) = some (.type "function") ∧
    Binds K fd (self :: fldsOf c) [] ∧ FnOk P w K mg base (L2.CX P w) 1 fI fd (self :: fldsOf c) (spI K D (fldsOf c))
structure GoodS (C : CC) (Γ : List DSp) (k : Nat) (sc : Scope) (X : Cx) (W : WX) : Prop where
  g : Good C Γ k sc fx1 X W
  kind : sc.kind = .function
  pass : PassesOwn (model X.prog X.w) X.A X.env X.xe
  stack : X.stack = X.env :: X.outer
  frame : X.env.frame = some X.env.locals
  two : 2 ≤ k
  errs : ∀ c ∈ C.errs, ErrG X.prog X.w X.K X.mg X.base c
theorem GoodS.tr {C : CC} {Γ : List DSp} {k : Nat} {sc : Scope} {X : Cx} {W W' : WX} (h : GoodS C Γ k sc X W) {pn : List (Addr × Obj)} {xe : Value → Shared → Prop} (tk : Takes (X.tr pn xe) W') (hp : PassesOwn (model X.prog X.w) X.A X.env xe) : GoodS C Γ k sc (X.tr pn xe) W' where
  g := ⟨h.g.N, h.g.nd, h.g.sc, h.g.fx, h.g.calm, tk, h.g.room, h.g.gd, h.g.glob⟩
  kind := h.kind
  pass := hp
  stack := h.stack
  frame := h.frame
  two := h.two
  errs := h.errs
section
variable {C : CC} {Γ : List DSp} {k : Nat} {sc : Scope} {X : Cx} {W : WX} {fs : List (Str × D)}
/-- all readings of expressions are right -/
theorem ok_all (dct : DctEvery) : ∀ n, OkN C Γ k n
  | 0 => ok_zero
  | n + 1 =>
    have ih := ok_all dct n
    ⟨fun h => ok_e dct ih h, fun h => ok_es ih h, fun h => ok_o ih h, fun h => ok_v ih h, fun h => ok_b dct ih h, fun h => ok_w ih h, fun h => ok_f ih h, fun h => ok_i dct ih h, fun h => ok_g ih h, fun h => ok_gs ih h⟩
theorem ix2_ok {x : Str} {i : Nat} (h : ix2 C sc x = some i) : badNm x = false ∧ sc.names.lookup x = some .local ∧ ixOf x C.N = some i := by
  unfold ix2 at h
  split at h
  · cases h
  · rename_i hb
    split at h
    · rename_i hl; exact ⟨by simpa using hb, hl, h⟩
    · cases h
theorem flds_ok {c : Str} {ds : List D} {gs : List (Str × D)} (h : fieldsOf c ds = some gs) : gs = (fldsOf c).zip ds := by
  unfold fieldsOf at h
  unfold fldsOf
  split at h
  · split at h
    · rename_i e; cases h; rw [if_pos e]; rfl
    · rename_i e
      rw [if_neg e]
      split at h
      · rename_i e2; cases h; rw [if_pos e2]; rfl
      · rename_i e2
        rw [if_neg e2]
        split at h
        · cases h
        · rename_i e3; cases h; rw [if_neg e3]; rfl
  · split at h
    · rename_i e
      cases h
      subst e
      rfl
    · cases h
  · cases h
theorem flds_nd (c : Str) : (fldsOf c).Nodup ∧ (fldsOf c).length ≤ 1000 := by
  unfold fldsOf
  split
  · exact ⟨by decide, by decide⟩
  · split
    · exact ⟨by decide, by decide⟩
    · split
      · exact ⟨by decide, by decide⟩
      · exact ⟨by decide, by decide⟩
end
end TA
set_option Elab.async false
set_option linter.all false
set_option maxRecDepth 100000
set_option maxHeartbeats 4000000
/-! TA13c: the reading of statements is right. -/
namespace TA
open PySem PySem.Spec L2
section
variable {C : CC} {Γ : List DSp} {k : Nat} {sc : Scope} {X : Cx} {W : WX} {fs : List (Str × D)}
/-! ### suites -/
mutual
theorem ok_h {a : Addr} {oe : Obj} {cls : Value} {d : Option Addr} {pn : List (Addr × Obj)} {en : Option Str} {oi : Option Nat} (hz : Zc cls d oe) (hf : ∃ vs, oe.data = .fields vs) (hen : ∀ x, en = some x → ∃ i, oi = some i ∧ X.N[i]? = some x ∧ Vis X.env.scope x ∧ badNm x = false) :
    ∀ (n : Nat) {e : Expr} {ir : IE}, cH n en e = some ir → PE (X.suite a ((a, oe) :: pn)) e (liftH X.w X.K oi a cls d fun fs => wpE Γ fs ir) ∧ noStar1 e = true
  | 0, _, _, h => by simp [cH] at h
  | n + 1, e, ir, h => by
    unfold cH at h
    split at h
    · refine ⟨?_, rfl⟩
      split at h
      · cases h; exact h_con (Y := X.suite a ((a, oe) :: pn)) pe_non fun H => rd_non.mpr rfl
      · cases h; exact h_con (Y := X.suite a ((a, oe) :: pn)) pe_bl fun H => rd_bl.mpr rfl
      · cases h; exact h_con (Y := X.suite a ((a, oe) :: pn)) pe_int fun H => rd_int.mpr rfl
      · cases h; exact h_con (Y := X.suite a ((a, oe) :: pn)) pe_str fun H => rd_str.mpr rfl
      · cases h
    · refine ⟨?_, rfl⟩
      split at h
      · rename_i hl
        simp only [Option.map_eq_some_iff] at h
        obtain ⟨x, hx, rfl⟩ := h
        exact h_tup (Y := X.suite a ((a, oe) :: pn)) (ok_hs hz hf hen n hx) (by rw [sizeLine_eq]; omega)
      · cases h
    · refine ⟨?_, rfl⟩
      split at h
      · rename_i hc
        cases h
        simp only [Bool.and_eq_true, beq_iff_eq, decide_eq_true_eq] at hc
        obtain ⟨i, rfl, hi, hv, hb⟩ := hen _ hc.1
        exact h_efld hi hv (bad_dbg hb).1 (bad_dbg hb).2.1 hc.2 hz hf rfl
      · cases h
    · cases h
theorem ok_hs {a : Addr} {oe : Obj} {cls : Value} {d : Option Addr} {pn : List (Addr × Obj)} {en : Option Str} {oi : Option Nat} (hz : Zc cls d oe) (hf : ∃ vs, oe.data = .fields vs) (hen : ∀ x, en = some x → ∃ i, oi = some i ∧ X.N[i]? = some x ∧ Vis X.env.scope x ∧ badNm x = false) :
    ∀ (n : Nat) {es : List Expr} {ir : IEs}, cH.cHs n en es = some ir → PA (X.suite a ((a, oe) :: pn)) es (liftHs X.w X.K oi a cls d es.length fun fs => wpEs Γ fs ir)
  | 0, _, _, h => by simp [cH.cHs] at h
  | n + 1, [], ir, h => by
    simp only [cH.cHs, Option.some.injEq] at h
    subst h
    exact hs_nil (Y := X.suite a ((a, oe) :: pn))
  | n + 1, e :: r, ir, h => by
    simp only [cH.cHs, Option.bind_eq_some_iff, Option.map_eq_some_iff] at h
    obtain ⟨x, hx, y, hy, rfl⟩ := h
    obtain ⟨h1, h2⟩ := ok_h hz hf hen n hx
    exact hs_cons (Y := X.suite a ((a, oe) :: pn)) h1 (ok_hs hz hf hen n hy) (star_of h2 _ _)
end
theorem in_range {N : List Str} {x : Str} {i : Nat} (h : ixOf x N = some i) : i ∈ List.range N.length := by
  have := ixOf_get h
  obtain ⟨hl, _⟩ := List.getElem?_eq_some_iff.mp this
  exact List.mem_range.mpr hl
structure OkS (C : CC) (Γ : List DSp) (k : Nat) (n : Nat) : Prop where
  s : ∀ {sc st ir}, cS C n sc st = some ir → ∀ {X W fs}, GoodS C Γ k sc X W → PS X st (liftS X.w X.K W (wpS Γ fs ir))
  ss : ∀ {sc st ir}, cSs C n sc st = some ir → ∀ {X W fs}, GoodS C Γ k sc X W → PSs X st (liftS X.w X.K W (wpSs Γ fs ir))
  x : ∀ {sc hs ir}, cX C n sc hs = some ir → ∀ {X W}, GoodS C Γ k sc X W → HdsI X Γ hs ir
theorem oks_zero : OkS C Γ k 0 where
  s := fun h => by simp [cS] at h
  ss := fun h => by simp [cSs] at h
  x := fun h => by simp [cX] at h
variable {n : Nat}
theorem oks_ss (ih : OkS C Γ k n) {st ir} (h : cSs C (n + 1) sc st = some ir) (g : GoodS C Γ k sc X W) : PSs X st (liftS X.w X.K W (wpSs Γ fs ir)) := by
  cases st with
  | nil => simp only [cSs, Option.some.injEq] at h; subst h; exact ss_nil
  | cons s r =>
    simp only [cSs, Option.bind_eq_some_iff, Option.map_eq_some_iff] at h
    obtain ⟨x, hx, y, hy, rfl⟩ := h
    exact ss_cons (ih.s hx g) (ih.ss hy g)
theorem oks_x (ih : OkS C Γ k n) {hs ir} (h : cX C (n + 1) sc hs = some ir) (g : GoodS C Γ k sc X W) : HdsI X Γ hs ir := by
  unfold cX at h
  split at h
  · cases h; exact hds_nil
  · split at h
    · rename_i hc
      simp only [Bool.and_eq_true, decide_eq_true_eq] at hc
      obtain ⟨hgl, hdb, _, _⟩ := gl_of hc.1
      have er := g.errs _ hc.2
      have hnm : Names X _ _ := ⟨g.g.gl hgl, hdb, .inl er.glob⟩
      split at h
      · simp only [Option.bind_eq_some_iff, Option.map_eq_some_iff] at h
        obtain ⟨x, hx, y, hy, rfl⟩ := h
        exact hds_cons er.known.mem er.ns hnm (fun a oe cls d pn hz hf => hs_ret (Y := X.suite a ((a, oe) :: pn)) (r := []) (ss := .nil) (ok_h (Γ := Γ) hz hf (fun x e => by cases e) n hx).1) (ih.x hy g)
      · rename_i nm
        simp only [Option.bind_eq_some_iff, Option.map_eq_some_iff] at h
        obtain ⟨i, hi, x, hx, y, hy, rfl⟩ := h
        obtain ⟨hb, hl, hix⟩ := ix2_ok hi
        have hN : X.N[i]? = some nm := by rw [g.g.N]; exact ixOf_get hix
        exact hds_as er.known.mem er.ns hN (by show X.env.scope.names.lookup _ = _; rw [g.g.sc]; exact hl) hnm
          (fun a oe cls d pn hz hf => hs_ret (Y := X.suite a ((a, oe) :: pn)) (r := []) (ss := .nil) (ok_h (Γ := Γ) hz hf (fun x e => by cases e; exact ⟨i, rfl, hN, .inl (by rw [g.g.sc]; exact hl), hb⟩) n hx).1) (ih.x hy g)
    · cases h
  · cases h
theorem errC {c : Str} (e : ErrG X.prog X.w X.K X.mg X.base c) : ErrC X 1 c (fldsOf c) := ⟨e.glob, e.known, e.ex⟩
theorem lc_parts (ih : OkN C Γ k n) {fx : Str → Bool} {elt : Expr} {gens : List Comprehension} {scope : Scope} {pos : Pos} {ir : IE} (h : cE C (n + 1) sc fx (.ListComp elt gens scope pos) = some ir) (g : Good C Γ k sc fx X W) {i : Nat} {y : Str} {py spos : Pos}
    (hy : X.N[i]? = some y) (hyl : X.env.scope.names.lookup y = some .local) (hsw : swapsWith (.ListComp elt gens scope pos) (some (.Name y py)) spos.line X.env = pure true) :
    PS X (.Assign [.Name y py] (.ListComp elt gens scope pos) spos) (liftS X.w X.K W (wpS Γ fs (.asg (.nam i) ir))) := by
  have hN : X.N.Nodup := by rw [g.N]; exact g.nd
  unfold cE at h
  split at h
  all_goals first
    | (rename_i heq; cases heq; done)
    | (cases h; done)
    | skip
  · rename_i heq
    cases heq
    split at h
    · rename_i hbk
      simp only [Option.bind_eq_some_iff, Option.map_eq_some_iff] at h
      obtain ⟨i, hi, t, ht, c, hc, e, he, rfl⟩ := h
      obtain ⟨pi, hfs⟩ := ih.i hi g
      exact s_setLc (ps_setLc g.calm hN hy hyl hsw pi (own_blk hbk g) (fun s H Ca cl fp => (ih.g ht (g.blk s H Ca cl fp)).1) (fun s H Ca cl fp => ih.f hc (g.blk s H Ca cl fp)) (fun s H Ca cl fp => ih.e he (g.blk s H Ca cl fp)) (hfs X.env)) fun σ H Q h => lc_imp σ H Q h
    · cases h
  · rename_i heq
    cases heq
    split at h
    · rename_i hbk
      simp only [Option.bind_eq_some_iff] at h
      obtain ⟨i, hi, t, ht, c, hc, i1, hi1, t1, ht1, c1, hc1, h⟩ := h
      split at h
      · rename_i hv
        simp only [Option.map_eq_some_iff] at h
        obtain ⟨e, he, rfl⟩ := h
        obtain ⟨pi, hfs⟩ := ih.i hi g
        exact s_setLc (ps_setLc2 g.calm hN hy hyl hsw pi (own_blk hbk g) (fun i hi => of_decide_eq_true (List.all_eq_true.mp hv i hi)) (fun s H Ca cl fp => (ih.g ht (g.blk s H Ca cl fp)).1) (fun s H Ca cl fp => ih.f hc (g.blk s H Ca cl fp)) (fun s H Ca cl fp => (ih.i hi1 (g.blk s H Ca cl fp)).1)
          (fun s H Ca cl fp => (ih.g ht1 (g.blk s H Ca cl fp)).1) (fun s H Ca cl fp => ih.f hc1 (g.blk s H Ca cl fp)) (fun s H Ca cl fp => ih.e he (g.blk s H Ca cl fp)) (hfs X.env) (fset_of (cI_set hi1))) fun σ H Q h => lc2_imp σ H Q h
      · cases h
    · cases h
end
end TA
set_option Elab.async false
set_option linter.all false
set_option maxRecDepth 100000
set_option maxHeartbeats 8000000
/-! TA13d: the reading of statements is right. -/
namespace TA
open PySem PySem.Spec L2
section
variable {C : CC} {Γ : List DSp} {k : Nat} {sc : Scope} {X : Cx} {W : WX} {fs : List (Str × D)} {n : Nat}
theorem dc_parts (dct : DctEvery) (ih : OkN C Γ k n) {fx : Str → Bool} {kx vx : Expr} {gens : List Comprehension} {scope : Scope} {pos : Pos} {ir : IE} (h : cE C (n + 1) sc fx (.DictComp kx vx gens scope pos) = some ir) (g : Good C Γ k sc fx X W) {i : Nat} {y : Str} {py spos : Pos}
    (hy : X.N[i]? = some y) (hyl : X.env.scope.names.lookup y = some .local) (hsw : swapsWith (.DictComp kx vx gens scope pos) (some (.Name y py)) spos.line X.env = pure true) :
    PS X (.Assign [.Name y py] (.DictComp kx vx gens scope pos) spos) (liftS X.w X.K W (wpS Γ fs (.asg (.nam i) ir))) := by
  have hN : X.N.Nodup := by rw [g.N]; exact g.nd
  unfold cE at h
  split at h
  all_goals first
    | (rename_i heq; cases heq; done)
    | (cases h; done)
    | skip
  rename_i heq
  cases heq
  split at h
  · rename_i hbk
    simp only [Option.bind_eq_some_iff, Option.map_eq_some_iff] at h
    obtain ⟨i, hi, t, ht, c, hc, x, hx, y, hy, rfl⟩ := h
    obtain ⟨pi, hfs⟩ := ih.i hi g
    exact (dct X g.units70 g.gd).setDc g.calm hN ‹_› hyl hsw pi (own_blk hbk g) (fun s H Ca cl fp => (ih.g ht (g.blk s H Ca cl fp)).1) (fun s H Ca cl fp => ih.f hc (g.blk s H Ca cl fp)) (fun s H Ca cl fp => ih.e hx (g.blk s H Ca cl fp)) (fun s H Ca cl fp => ih.e hy (g.blk s H Ca cl fp)) (hfs X.env)
  · cases h
theorem succ_of {m : Nat} {fx : Str → Bool} {e : Expr} {ir : IE} (h : cE C m sc fx e = some ir) : ∃ j, m = j + 1 := by
  cases m with
  | zero => simp [cE] at h
  | succ j => exact ⟨j, rfl⟩
theorem sws_name {y : Str} {py : Pos} {e : Expr} {l : Nat} {env : PySem.Env} {b : Bool} (he : env.scope = sc) (hk : sc.kind = .function) (h : swB sc y py e = b) : swapsWithSole [.Name y py] e l env = pure b := by
  show swapsWith e (some (.Name y py)) l env = _
  rw [sw_name he hk, h]
theorem sws_tup {env : PySem.Env} {ts : List Expr} {k : Nat} {p : Pos} {e : Expr} {l : Nat} : swapsWithSole [.Tuple ts k p] e l env = pure false := by
  show swapsWith e (some (.Tuple ts k p)) l env = _
  exact sw_tup
theorem sws_sub {env : PySem.Env} {o i : Expr} {p : Pos} {e : Expr} {l : Nat} : swapsWithSole [.Subscript o i p] e l env = pure false := by
  show swapsWith e (some (.Subscript o i p)) l env = _
  exact sw_sub
theorem swap_names {ts vs : List Expr} {nms : List Str} (h : swapP sc ts vs = some (some nms)) : nms = ts.filterMap (fun | .Name id pos => if sc.names.lookup id == some .local && pos.line == (ts.head?.map (·.pos.line)).getD 0 then some id else none | _ => none) ∧ nms.length = ts.length := by
  unfold swapP at h
  split at h
  · cases h
  · split at h
    · cases h
    · split at h
      · cases h
      · rename_i h3
        split at h
        · cases h
        · split at h
          · cases h
          · cases h
            refine ⟨rfl, ?_⟩
            simp only [Bool.or_eq_true, not_or, bne_iff_ne, ne_eq, Decidable.not_not] at h3
            exact h3.1
theorem swap_two {x y : Str} {px py : Pos} {vs : List Expr} {nms : List Str} (h : swapP sc [.Name x px, .Name y py] vs = some (some nms)) : nms = [x, y] := by
  obtain ⟨h1, h2⟩ := swap_names h
  rw [h1] at h2 ⊢
  simp only [List.filterMap_cons, List.filterMap_nil] at h2 ⊢
  split at h2
  · exfalso; split at h2 <;> simp at h2
  · rename_i e1
    split at h2
    · simp at h2
    · rename_i e2
      split at e1
      · cases e1
        split at e2
        · cases e2
          simp_all
        · cases e2
      · cases e1
theorem swap_three {x y z : Str} {px py pz : Pos} {vs : List Expr} {nms : List Str} (h : swapP sc [.Name x px, .Name y py, .Name z pz] vs = some (some nms)) : nms = [x, y, z] := by
  obtain ⟨h1, h2⟩ := swap_names h
  rw [h1] at h2 ⊢
  simp only [List.filterMap_cons, List.filterMap_nil] at h2 ⊢
  split at h2
  · exfalso; split at h2 <;> split at h2 <;> simp at h2
  · rename_i e1
    split at h2
    · exfalso; split at h2 <;> simp at h2
    · rename_i e2
      split at h2
      · simp at h2
      · rename_i e3
        split at e1
        · cases e1
          split at e2
          · cases e2
            split at e3
            · cases e3
              simp_all
            · cases e3
          · cases e2
        · cases e1
theorem flds_ne (c : Str) : (fldsOf c).length ≠ 0 := by
  unfold fldsOf
  split
  · decide
  · split
    · decide
    · split <;> decide
theorem asg_sub {o i : Expr} {pos : Pos} {env : PySem.Env} (h : noSlice i = true) (v : Value) : assign (.Subscript o i pos) env v = (do
      let ov ← holding [v] (eval o env)
      let iv ← holding [v, ov] (eval i env)
      standAt pos
      holding [v, ov, iv] (setItem ov iv v)
      release [v, ov, iv] []) := by
  cases i <;> first | rfl | cases h
theorem aug_all {op : Operator} (h : augOk op = true) : PIp X op (liftR X.w X.K (ipD op)) := by
  cases op <;> first
    | exact fun pins s σ H x y v u Q I r1 r2 q => iop_add' pins s σ H x y v u Q I r1 r2 q
    | exact fun pins s σ H x y v u Q I r1 r2 q => iop_sub' pins s σ H x y v u Q I r1 r2 q
    | cases h
theorem oks_s (dct : DctEvery) (ih : OkS C Γ k n) {st ir} (h : cS C (n + 1) sc st = some ir) (G : GoodS C Γ k sc X W) : PS X st (liftS X.w X.K W (wpS Γ fs ir)) := by
  have g := G.g
  have ihe : OkN C Γ k n := ok_all dct n
  have dd := dct X g.units70 g.gd
  have hN : X.N.Nodup := by rw [g.N]; exact g.nd
  unfold cS at h
  split at h
  · cases h; exact s_doc
  · -- Expr
    split at h
    · rename_i hc
      simp only [Option.map_eq_some_iff] at h
      obtain ⟨x, hx, rfl⟩ := h
      exact s_ex (ihe.e hx g) (sw_drop hc)
    · cases h
  · cases h; exact s_retN
  · simp only [Option.map_eq_some_iff] at h
    obtain ⟨x, hx, rfl⟩ := h
    exact s_ret (ihe.e hx g)
  · cases h; exact s_pas
  · cases h; exact s_brk
  · cases h; exact s_cnt
  · simp only [Option.bind_eq_some_iff, Option.map_eq_some_iff] at h
    obtain ⟨x, hx, y, hy, z, hz, rfl⟩ := h
    exact s_iff (ihe.b hx g) (ih.ss hy G) (ih.ss hz G)
  · simp only [Option.bind_eq_some_iff, Option.map_eq_some_iff] at h
    obtain ⟨x, hx, y, hy, rfl⟩ := h
    exact s_whl G.pass (ihe.b hx g) (ih.ss hy G)
  · simp only [Option.bind_eq_some_iff, Option.map_eq_some_iff] at h
    obtain ⟨i, hi, t, ht, y, hy, rfl⟩ := h
    obtain ⟨pi, hfs⟩ := ihe.i hi g
    exact s_frr G.pass g.calm pi (ihe.g ht g).1 (ih.ss hy G) (hfs X.env)
  · -- Assign Name
    split at h
    · rename_i hsw
      split at h
      · simp only [Option.bind_eq_some_iff, Option.map_eq_some_iff] at h
        obtain ⟨i, hi, x, hx, rfl⟩ := h
        obtain ⟨hb, hl, hix⟩ := ix2_ok hi
        obtain ⟨j, rfl⟩ := succ_of hx
        exact lc_parts (ok_all dct j) hx g (by rw [g.N]; exact ixOf_get hix) (by rw [g.sc]; exact hl) ((sw_name g.sc G.kind).trans (by rw [hsw]))
      · simp only [Option.bind_eq_some_iff, Option.map_eq_some_iff] at h
        obtain ⟨i, hi, x, hx, rfl⟩ := h
        obtain ⟨hb, hl, hix⟩ := ix2_ok hi
        obtain ⟨j, rfl⟩ := succ_of hx
        exact dc_parts dct (ok_all dct j) hx g (by rw [g.N]; exact ixOf_get hix) (by rw [g.sc]; exact hl) ((sw_name g.sc G.kind).trans (by rw [hsw]))
      · cases h
    · rename_i hsw
      simp only [Bool.not_eq_true] at hsw
      simp only [Option.bind_eq_some_iff, Option.map_eq_some_iff] at h
      obtain ⟨t, ht, x, hx, rfl⟩ := h
      exact s_asg (ihe.e hx g) (ihe.g ht g).1 (sws_name g.sc G.kind hsw) st_name rfl
  · -- Assign Tuple Tuple
    split at h
    · rename_i hsp
      simp only [Option.bind_eq_some_iff, Option.map_eq_some_iff] at h
      obtain ⟨t, ht, x, hx, rfl⟩ := h
      obtain ⟨h1, h2, h3, h4⟩ := ihe.gs ht g
      exact s_asg (ihe.e hx g) (g_tup g.calm h1 h2 h3 fun ds σ P hw => by rw [(wpTs_ex _ hw).1, h4]) sws_tup (swap_eq g.sc G.kind hsp) rfl
    · rename_i nms hsp
      split at h
      · simp only [Option.bind_eq_some_iff] at h
        obtain ⟨i, hi, j, hj, h⟩ := h
        split at h
        · cases h
        · rename_i hij
          simp only [Option.bind_eq_some_iff, Option.map_eq_some_iff] at h
          obtain ⟨u, hu, v, hv, rfl⟩ := h
          obtain ⟨_, hl1, hx1⟩ := ix2_ok hi
          obtain ⟨_, hl2, hx2⟩ := ix2_ok hj
          have e := swap_two hsp
          subst e
          exact s_par g.calm hN (by rw [g.N]; exact ixOf_get hx1) (by rw [g.N]; exact ixOf_get hx2) hij (by rw [g.sc]; exact hl1) (by rw [g.sc]; exact hl2) (a_cons (ihe.e hu g) (a_cons (ihe.e hv g) a_nil (star_of (cE_star hv) _ _)) (star_of (cE_star hu) _ _)) (swap_eq g.sc G.kind hsp) sws_tup
      · simp only [Option.bind_eq_some_iff] at h
        obtain ⟨i, hi, j, hj, l, hl, h⟩ := h
        split at h
        · cases h
        · rename_i hij
          simp only [not_or] at hij
          simp only [Option.bind_eq_some_iff, Option.map_eq_some_iff] at h
          obtain ⟨u, hu, v, hv, r, hr, rfl⟩ := h
          obtain ⟨_, hl1, hx1⟩ := ix2_ok hi
          obtain ⟨_, hl2, hx2⟩ := ix2_ok hj
          obtain ⟨_, hl3, hx3⟩ := ix2_ok hl
          have e := swap_three hsp
          subst e
          exact s_par3 g.calm hN (by rw [g.N]; exact ixOf_get hx1) (by rw [g.N]; exact ixOf_get hx2) (by rw [g.N]; exact ixOf_get hx3) hij.1 hij.2.1 hij.2.2 (by rw [g.sc]; exact hl1) (by rw [g.sc]; exact hl2) (by rw [g.sc]; exact hl3)
            (a_cons (ihe.e hu g) (a_cons (ihe.e hv g) (a_cons (ihe.e hr g) a_nil (star_of (cE_star hr) _ _)) (star_of (cE_star hv) _ _)) (star_of (cE_star hu) _ _)) (swap_eq g.sc G.kind hsp) sws_tup
      · cases h
    · cases h
  · -- Assign Tuple
    split at h
    · rename_i hnt
      simp only [Option.bind_eq_some_iff, Option.map_eq_some_iff] at h
      obtain ⟨t, ht, x, hx, rfl⟩ := h
      obtain ⟨h1, h2, h3, h4⟩ := ihe.gs ht g
      exact s_asg (ihe.e hx g) (g_tup g.calm h1 h2 h3 fun ds σ P hw => by rw [(wpTs_ex _ hw).1, h4]) sws_tup (st_tup hnt) rfl
    · cases h
  · -- Assign Subscript
    split at h
    · rename_i hns
      simp only [Option.bind_eq_some_iff, Option.map_eq_some_iff] at h
      obtain ⟨x, hx, y, hy, z, hz, rfl⟩ := h
      refine s_asub dd.set (ihe.e hz g) (ihe.e hx g) (ihe.e hy g) (fun v => asg_sub hns v) sws_sub st_sub rfl
    · cases h
  · -- AugAssign
    split at h
    · rename_i ho
      simp only [Option.bind_eq_some_iff, Option.map_eq_some_iff] at h
      obtain ⟨i, hi, x, hx, rfl⟩ := h
      obtain ⟨hb, hl, hix⟩ := ix2_ok hi
      exact s_aug hN (by rw [g.N]; exact ixOf_get hix) (.inl (by rw [g.sc]; exact hl)) (ihe.e hx g) (aug_all ho) (.inr (by rw [g.sc]; exact hl))
    · cases h
  · -- Raise
    rename_i rc rp args rpos rpos2
    split at h
    · rename_i hc
      simp only [Bool.and_eq_true, decide_eq_true_eq] at hc
      obtain ⟨h1, h2, h3⟩ := hc
      obtain ⟨hgl, hdb, _, _⟩ := gl_of h1
      simp only [Option.map_eq_some_iff] at h
      obtain ⟨as, has, rfl⟩ := h
      have hs := cEs_star has
      have pa := ihe.es (fs := fs) has g
      have er := G.errs _ h2
      have hr : Room (1 + 1) X.A := g.room.mono G.two
      match args, hs, pa, h3, has with
      | [], _, _, h3, _ => exact absurd h3 (flds_ne _)
      | a :: r, hs, pa, h3, _ => exact s_rse g.calm g.tk (g.gl hgl) hdb (errC er) hr h3 (flds_nd _).1 (flds_nd _).2 (fun ds gs h => flds_ok h) pa (star_of (hs a (by simp)) _ _) (star_any (tl_stars hs) _ _)
    · cases h
  · -- Try
    rename_i tb ths tpos
    simp only [Option.bind_eq_some_iff] at h
    obtain ⟨x, hx, y, hy, h⟩ := h
    split at h
    · cases h
    · rename_i hne
      cases h
      match ths, hy, hne with
      | [], _, hne => exact (hne rfl).elim
      | h0 :: r, hy, _ => exact s_trn hN G.stack G.frame g.tk (fun W' pn xe tk hp => ih.ss hx (G.tr tk hp)) (ih.x hy G)
  · cases h
theorem oks_all (dct : DctEvery) : ∀ n, OkS C Γ k n
  | 0 => oks_zero
  | n + 1 =>
    have ih := oks_all dct n
    ⟨fun h => oks_s dct ih h, fun h => oks_ss ih h, fun h => oks_x ih h⟩
/-! ### a def -/
/-- a scope of a def: its names, the parameters first (kind, no free names) -/
theorem good_cx {P : Program} {w : World} {K : PySem.W.Frag} {mg : Str → Option Value} {base : Heap} {ps : List Str} {qual : Str} {scope : Scope} {f : Addr} {cd : Value} {A : Around} {outer : List PySem.Env} {s : Shared} {H : Hp} {E : XK} (Sc : FnScope C.N ps scope) (two : 2 ≤ k) (hG : A.guards = some [])
    (hr : Room k (A.deeper (PyProof.Rows.envOfC qual scope s.heap.objs.size f cd))) (hg : Glob C Γ P w K mg base k) (he : ∀ c ∈ C.errs, ErrG P w K mg base c) : GoodS C Γ k scope (cxOf (L2.CX P w) P w K mg base C.N qual scope f cd A outer s H E) (WD E) where
  g := ⟨rfl, Sc.nd, rfl, rfl, rfl, takes_of rfl rfl rfl rfl, hr, hG, hg⟩
  kind := Sc.kind
  pass := passes_of rfl
  stack := rfl
  frame := rfl
  two := two
  errs := he
theorem fn_text (dct : DctEvery) {P : Program} {w : World} {K : PySem.W.Frag} {mg : Str → Option Value} {base : Heap} {x qual : Str} {params : Arguments} {bd : List Stmt} {scope : Scope} {dvs : List V} {kws : List (Str × V)} {f : Addr} {fd : FuncData} {ps : List Str} {ir : ISs} {sp : DSp} {m : Nat}
    (F : FunD K x qual params bd scope dvs kws f fd) (Sc : C8.scC C.N ps scope = true) (hc : cSs C m scope bd = some ir) (two : 2 ≤ k) (hg : Glob C Γ P w K mg base k) (he : ∀ c ∈ C.errs, ErrG P w K mg base c) (len : ∀ ds S Q E, sp ds S Q E → ds.length = ps.length) (hk : Keeps Γ C.N.length ir sp) :
    FnOkG P w K mg base (L2.CX P w) (k + 1) f fd ps (liftSp w K sp) :=
  fn_ta F (C8.fnScope_by Sc) len (fun cdv A outer s H E hG hr => (oks_all dct m).ss hc (good_cx (C8.fnScope_by Sc) two hG hr hg he)) hk
end
end TA
set_option Elab.async false
set_option linter.all false
set_option maxRecDepth 100000
set_option maxHeartbeats 2000000
/-! TA14a: dicts: how they stand for the library's rules. -/
namespace TA
open PySem PySem.Spec L2
/-! ### keys -/
mutual
theorem nis {X : Cx} {pins : List (Addr × Obj)} {σ : L2.St} {H : Hp} {s : Shared} (I : L2.Inv X pins σ H s) : ∀ (d : D) (v : V) (u : Value), RD X.K H d v → keyN d = true → RelV v u → NestedIs s.heap (nk d) u
  | .non, v, u, r, _, q => by rw [rd_non] at r; subst r; cases q; exact .none
  | .bl b, v, u, r, _, q => by rw [rd_bl] at r; subst r; cases q; exact .bool rfl
  | .int i, v, u, r, _, q => by rw [rd_int] at r; subst r; obtain ⟨t, rfl⟩ := q; exact .int _ _
  | .str x, v, u, r, _, q => by rw [rd_str] at r; subst r; obtain ⟨t, rfl⟩ := q; exact .text _ _
  | .ref a, v, u, r, k, q => by simp [keyN] at k
  | .tup xs, v, u, r, k, q => by
    obtain ⟨a, vs, rfl, hs, rs⟩ := rd_tup.mp r
    cases q
    obtain ⟨its, rv, ⟨o, ho, hc, n, hd⟩, _⟩ := I.tuple hs
    exact .tup ho hc hd (by simpa using nisAll I xs vs its rs (by simpa [keyN] using k) rv)
theorem nisAll {X : Cx} {pins : List (Addr × Obj)} {σ : L2.St} {H : Hp} {s : Shared} (I : L2.Inv X pins σ H s) : ∀ (ds : List D) (vs : List V) (us : List Value), RDs X.K H ds vs → keyNs ds = true → Vals vs us → NestedAll s.heap (nks ds) us
  | [], vs, us, r, _, q => by simp only [RDs] at r; subst r; cases q; exact .nil
  | d :: r, vs, us, h, k, q => by
    obtain ⟨v, vr, rfl, h1, h2⟩ := h.uncons
    simp only [keyNs, Bool.and_eq_true] at k
    cases q with
    | cons q1 q2 => exact .cons (nis I d v _ h1 k.1 q1) (nisAll I r vr _ h2 k.2 q2)
end
theorem fit_tup {k : D} {kvs : List (D × D)} (h : fitK k kvs = true) (t : isTupD k = true) : keyN k = true ∧ (nk k).depth ≤ 8 ∧ allTup kvs = true := by
  unfold fitK keyOk at h
  simp only [Bool.and_eq_true, Bool.or_eq_true, decide_eq_true_eq] at h
  refine ⟨h.1.1, h.1.2, ?_⟩
  rcases h.2 with h | h
  · exact h.2
  · cases k <;> first | (cases h.1; done) | cases t
theorem fit_flat {k : D} {kvs : List (D × D)} (h : fitK k kvs = true) (t : isTupD k = false) : keyN k = true ∧ isFlatD k = true ∧ allFlat kvs = true := by
  unfold fitK keyOk at h
  simp only [Bool.and_eq_true, Bool.or_eq_true, decide_eq_true_eq] at h
  refine ⟨h.1.1, ?_⟩
  rcases h.2 with h | h
  · rw [t] at h; cases h.1
  · exact h
/-! ### a dict of tuples -/
def RT (K : PySem.W.Frag) (H : Hp) (p : D × D) (x : NestedKey × Addr × Value) : Prop := keyOk p.1 = true ∧ isTupD p.1 = true ∧ x.1 = nk p.1 ∧ RD K H p.1 (.ref x.2.1) ∧ ∃ vv, RelV vv x.2.2 ∧ RD K H p.2 vv
theorem rt_of {P : Program} {w : World} {K : PySem.W.Frag} {H : Hp} : ∀ {kvs : List (D × D)} {es : List DictEntry}, Paired (RE w K H) kvs es → allTup kvs = true → ∃ xs, es = xs.map (entryOfKey (nestedKind P w)) ∧ Paired (RT K H) kvs xs
  | _, _, .nil, _ => ⟨[], rfl, .nil⟩
  | p :: r, e :: es, .cons h t, a => by
    simp only [allTup, List.all_cons, Bool.and_eq_true] at a
    obtain ⟨xs, hx, px⟩ := rt_of (P := P) t a.2
    obtain ⟨h1, h2, h3, ⟨kv, r1, r2⟩, vv, r3, r4⟩ := h
    obtain ⟨pk, pv⟩ := p
    obtain ⟨eh, ek, ev⟩ := e
    cases pk with
    | tup ys =>
      obtain ⟨b, vs, rfl, hs, rs⟩ := rd_tup.mp r2
      obtain rfl : ek = .ref b := r1
      obtain rfl : eh = (nk (.tup ys)).hash w := h3
      exact ⟨(nk (.tup ys), b, ev) :: xs, by rw [hx]; rfl, .cons ⟨h1, rfl, rfl, r2, vv, r3, r4⟩ px⟩
    | _ => cases a.1
theorem re_of {P : Program} {w : World} {K : PySem.W.Frag} {H : Hp} {kvs : List (D × D)} {xs : List (NestedKey × Addr × Value)} (h : Paired (RT K H) kvs xs) : Paired (RE w K H) kvs (xs.map (entryOfKey (nestedKind P w))) := by
  induction h with
  | nil => exact .nil
  | @cons p x r xs h t ih =>
    obtain ⟨h1, h2, h3, h4, h5⟩ := h
    refine .cons ⟨h1, ?_, ?_, ⟨.ref x.2.1, rfl, h4⟩, h5⟩ ih
    · unfold keyOk at h1
      simp only [Bool.and_eq_true, decide_eq_true_eq] at h1
      exact h1.2
    · show x.1.hash w = _; rw [h3]
theorem rt_nodup {K : PySem.W.Frag} {H : Hp} {kvs : List (D × D)} {xs : List (NestedKey × Addr × Value)} (h : Paired (RT K H) kvs xs) : xs.map (·.1) = kvs.map fun p => nk p.1 := by
  induction h with
  | nil => rfl
  | cons h t ih => simp only [List.map_cons, ih]; rw [h.2.2.1]
theorem rt_at {K : PySem.W.Frag} {H : Hp} {k : D} {kvs : List (D × D)} {xs : List (NestedKey × Addr × Value)} (h : Paired (RT K H) kvs xs) : match keyD k kvs with
    | some d => ∃ p vv, atKey xs (nk k) = some p ∧ RelV vv p.2 ∧ RD K H d vv
    | none => atKey xs (nk k) = none := by
  induction h with
  | nil => rfl
  | @cons p x r xs h t ih =>
    obtain ⟨h1, h2, h3, h4, vv, h5, h6⟩ := h
    obtain ⟨pk, pv⟩ := p
    by_cases e : nk pk = nk k
    · simp only [keyD, e, if_true]
      refine ⟨x.2, vv, ?_, h5, h6⟩
      unfold atKey
      rw [List.find?_cons_of_pos (by simp [h3, e])]
      rfl
    · simp only [keyD, e, if_false]
      have : atKey (x :: xs) (nk k) = atKey xs (nk k) := by
        unfold atKey
        rw [List.find?_cons_of_neg (by simp [h3, e])]
      rw [this]
      exact ih
theorem rt_put {K : PySem.W.Frag} {H : Hp} {k d : D} {b : Addr} {v : Value} {vv : V} (hk : keyOk k = true) (ht : isTupD k = true) (rk : RD K H k (.ref b)) (rv : RelV vv v) (rd : RD K H d vv) {kvs : List (D × D)} {xs : List (NestedKey × Addr × Value)} (h : Paired (RT K H) kvs xs) (nd : (kvs.map fun p => nk p.1).Nodup) :
    Paired (RT K H) (putK k d kvs) (storedH xs (nk k) b v) := by
  have at_ := rt_at (k := k) h
  unfold storedH
  split
  · rename_i hs
    clear at_
    induction h with
    | nil => simp [atKey] at hs
    | @cons p x r xs h t ih =>
      obtain ⟨h1, h2, h3, h4, h5⟩ := h
      obtain ⟨pk, pv⟩ := p
      rw [List.map_cons, List.nodup_cons] at nd
      by_cases e : nk pk = nk k
      · simp only [putK, e, if_true, List.map_cons]
        refine .cons ?_ ?_
        · unfold putAt
          rw [if_pos (by rw [h3]; exact e)]
          exact ⟨h1, h2, h3, h4, vv, rv, rd⟩
        · have : ∀ y ∈ xs, putAt (nk k) v y = y := fun y hy => by
            unfold putAt
            rw [if_neg]
            intro z
            apply nd.1
            rw [← rt_nodup t, e, ← z]
            exact List.mem_map.mpr ⟨y, hy, rfl⟩
          rw [List.map_congr_left this, List.map_id']
          exact t
      · simp only [putK, e, if_false, List.map_cons]
        refine .cons ?_ (ih nd.2 ?_)
        · unfold putAt
          rw [if_neg (by rw [h3]; exact e)]
          exact ⟨h1, h2, h3, h4, h5⟩
        · have : atKey (x :: xs) (nk k) = atKey xs (nk k) := by
            unfold atKey
            rw [List.find?_cons_of_neg (by simp [h3, e])]
          rw [this] at hs; exact hs
  · rename_i hs
    clear at_
    induction h with
    | nil => exact .cons ⟨hk, ht, rfl, rk, vv, rv, rd⟩ .nil
    | @cons p x r xs h t ih =>
      obtain ⟨h1, h2, h3, h4, h5⟩ := h
      obtain ⟨pk, pv⟩ := p
      rw [List.map_cons, List.nodup_cons] at nd
      by_cases e : nk pk = nk k
      · exfalso
        apply hs
        unfold atKey
        rw [List.find?_cons_of_pos (by simp [h3, e])]
        rfl
      · simp only [putK, e, if_false, List.cons_append]
        refine .cons ⟨h1, h2, h3, h4, h5⟩ (ih nd.2 ?_)
        have : atKey (x :: xs) (nk k) = atKey xs (nk k) := by
          unfold atKey
          rw [List.find?_cons_of_neg (by simp [h3, e])]
        rw [this] at hs; exact hs
end TA
set_option Elab.async false
set_option linter.all false
set_option maxRecDepth 100000
set_option maxHeartbeats 2000000
/-! TA14b: dicts of ints and texts for the library's rules; get, in, set. -/
namespace TA
open PySem PySem.Spec L2
def kD : Key → D
  | .inl i => .int i
  | .inr x => .str x
theorem kD_nk {a b : Key} (h : nk (kD a) = nk (kD b)) : a = b := by
  cases a <;> cases b <;> simp_all [kD, nk]
theorem flat_key {d : D} (h : isFlatD d = true) : ∃ k, d = kD k := by
  cases d with
  | int i => exact ⟨.inl i, rfl⟩
  | str x => exact ⟨.inr x, rfl⟩
  | _ => cases h
def RF (K : PySem.W.Frag) (H : Hp) (p : D × D) (q : Key × Value) : Prop := p.1 = kD q.1 ∧ ∃ vv, RelV vv q.2 ∧ RD K H p.2 vv
theorem kD_is {P : Program} {w : World} {K : PySem.W.Frag} {H : Hp} {k : Key} {v : V} {u : Value} (r : RD K H (kD k) v) (q : RelV v u) : (mixKind P w).is k u = true ∧ (mixKind P w).hash k = (nk (kD k)).hash w := by
  cases k with
  | inl i =>
    rw [kD, rd_int] at r; subst r
    obtain ⟨t, rfl⟩ := q
    exact ⟨mixKind_int P w i t, rfl⟩
  | inr x =>
    rw [kD, rd_str] at r; subst r
    obtain ⟨t, rfl⟩ := q
    exact ⟨mixKind_str P w x t, rfl⟩
theorem is_kD {P : Program} {w : World} {K : PySem.W.Frag} {H : Hp} {k : Key} {u : Value} (h : (mixKind P w).is k u = true) : ∃ kv, RelV kv u ∧ RD K H (kD k) kv := by
  rcases keyIs_shape (show keyIs k u = true from h) with ⟨i, t, rfl, rfl⟩ | ⟨x, t, rfl, rfl⟩
  · exact ⟨.int i, ⟨t, rfl⟩, rd_int.mpr rfl⟩
  · exact ⟨.str x, ⟨t, rfl⟩, rd_str.mpr rfl⟩
theorem kD_ok (k : Key) : keyOk (kD k) = true ∧ isFlatD (kD k) = true ∧ (nk (kD k)).depth ≤ 8 := by
  cases k <;> simp [kD, keyOk, keyN, nk, NestedKey.depth, isFlatD]
theorem rf_of {P : Program} {w : World} {K : PySem.W.Frag} {H : Hp} : ∀ {kvs : List (D × D)} {es : List DictEntry}, Paired (RE w K H) kvs es → allFlat kvs = true → ∃ vs, Pairs (mixKind P w) es vs ∧ Paired (RF K H) kvs vs ∧ ∀ e ∈ es, ∃ k, (mixKind P w).is k e.key = true ∧ e.hash = (mixKind P w).hash k
  | _, _, .nil, _ => ⟨[], .nil, .nil, fun e he => by cases he⟩
  | p :: r, e :: es, .cons h t, a => by
    simp only [allFlat, List.all_cons, Bool.and_eq_true] at a
    obtain ⟨vs, h1, h2, h3⟩ := rf_of (P := P) t a.2
    obtain ⟨g1, g2, g3, ⟨kv, r1, r2⟩, vv, r3, r4⟩ := h
    obtain ⟨k, hk⟩ := flat_key a.1
    rw [hk] at r2 g3
    obtain ⟨i1, i2⟩ := kD_is (P := P) (w := w) r2 r1
    refine ⟨(k, e.val) :: vs, .cons i1 rfl h1, .cons ⟨hk, vv, r3, r4⟩ h2, fun e' he => ?_⟩
    rcases List.mem_cons.mp he with rfl | he
    · exact ⟨k, i1, by rw [g3, i2]⟩
    · exact h3 e' he
theorem rf_back {P : Program} {w : World} {K : PySem.W.Frag} {H : Hp} {vs : List (Key × Value)} {es : List DictEntry} (h : Pairs (mixKind P w) es vs) : ∀ {kvs : List (D × D)}, Paired (RF K H) kvs vs → (∀ e ∈ es, ∃ k, (mixKind P w).is k e.key = true ∧ e.hash = (mixKind P w).hash k) → Paired (RE w K H) kvs es := by
  induction h with
  | nil => intro kvs q _; cases q; exact .nil
  | @cons e kv es vs h1 h2 h3 ih =>
    intro kvs q hk
    cases q with
    | @cons p _ r _ q1 q2 =>
      obtain ⟨g1, vv, g2, g3⟩ := q1
      obtain ⟨k', i1, i2⟩ := hk e List.mem_cons_self
      have ek : k' = kv.1 := (mixKind P w).inj _ _ _ i1 h1
      subst ek
      obtain ⟨kv', r1, r2⟩ := is_kD (K := K) (H := H) i1
      obtain ⟨_, hh⟩ := kD_is (P := P) (w := w) r2 r1
      refine .cons ⟨by rw [g1]; exact (kD_ok _).1, by rw [g1]; exact (kD_ok _).2.2, by rw [g1, i2, hh], ⟨kv', r1, by rw [g1]; exact r2⟩, vv, by rw [h2]; exact g2, g3⟩ (ih q2 fun e he => hk e (List.mem_cons_of_mem _ he))
theorem rf_keys {K : PySem.W.Frag} {H : Hp} {kvs : List (D × D)} {vs : List (Key × Value)} (h : Paired (RF K H) kvs vs) : (kvs.map fun p => nk p.1) = (vs.map (·.1)).map fun k => nk (kD k) := by
  induction h with
  | nil => rfl
  | cons h t ih => simp only [List.map_cons, ih]; rw [h.1]
theorem rf_flat {K : PySem.W.Frag} {H : Hp} {kvs : List (D × D)} {vs : List (Key × Value)} (h : Paired (RF K H) kvs vs) : allFlat kvs = true := by
  induction h with
  | nil => rfl
  | cons h t ih => simp only [allFlat, List.all_cons, Bool.and_eq_true]; exact ⟨by rw [h.1]; exact (kD_ok _).2.1, ih⟩
theorem rf_at {K : PySem.W.Frag} {H : Hp} {k : Key} {kvs : List (D × D)} {vs : List (Key × Value)} (h : Paired (RF K H) kvs vs) : match keyD (kD k) kvs with
    | some d => ∃ u vv, valueAt vs k = some u ∧ RelV vv u ∧ RD K H d vv
    | none => valueAt vs k = none := by
  induction h with
  | nil => rfl
  | @cons p q r vs h t ih =>
    obtain ⟨h1, vv, h2, h3⟩ := h
    obtain ⟨pk, pv⟩ := p
    obtain ⟨qk, qv⟩ := q
    obtain rfl : pk = kD qk := h1
    by_cases e : qk = k
    · subst e
      simp only [keyD, if_true]
      exact ⟨qv, vv, by simp [valueAt], h2, h3⟩
    · have ne : ¬ nk (kD qk) = nk (kD k) := fun z => e (kD_nk z)
      simp only [keyD, ne, if_false]
      have : valueAt ((qk, qv) :: vs) k = valueAt vs k := by simp [valueAt, e]
      rw [this]; exact ih
theorem rf_put {K : PySem.W.Frag} {H : Hp} {k : Key} {d : D} {v : Value} {vv : V} (rv : RelV vv v) (rd : RD K H d vv) {kvs : List (D × D)} {vs : List (Key × Value)} (h : Paired (RF K H) kvs vs) (nd : (vs.map (·.1)).Nodup) : Paired (RF K H) (putK (kD k) d kvs) (stored vs k v) := by
  unfold stored
  split
  · rename_i hs
    induction h with
    | nil => simp at hs
    | @cons p q r vs h t ih =>
      obtain ⟨h1, h2⟩ := h
      obtain ⟨pk, pv⟩ := p
      obtain ⟨qk, qv⟩ := q
      obtain rfl : pk = kD qk := h1
      rw [List.map_cons, List.nodup_cons] at nd
      by_cases e : qk = k
      · subst e
        simp only [putK, if_true, List.map_cons]
        refine .cons ⟨rfl, vv, rv, rd⟩ ?_
        have : ∀ y ∈ vs, (if y.1 = qk then (y.1, v) else y) = y := fun y hy => if_neg fun z => nd.1 (List.mem_map.mpr ⟨y, hy, z⟩)
        rw [List.map_congr_left this, List.map_id']
        exact t
      · have ne : ¬ nk (kD qk) = nk (kD k) := fun z => e (kD_nk z)
        simp only [putK, ne, if_false, List.map_cons, e]
        refine .cons ⟨rfl, h2⟩ (ih nd.2 (by simpa [e] using hs))
  · rename_i hs
    induction h with
    | nil => exact .cons ⟨rfl, vv, rv, rd⟩ .nil
    | @cons p q r vs h t ih =>
      obtain ⟨h1, h2⟩ := h
      obtain ⟨pk, pv⟩ := p
      obtain ⟨qk, qv⟩ := q
      obtain rfl : pk = kD qk := h1
      rw [List.map_cons, List.nodup_cons] at nd
      by_cases e : qk = k
      · subst e; exfalso; apply hs; simp
      · have ne : ¬ nk (kD qk) = nk (kD k) := fun z => e (kD_nk z)
        simp only [putK, ne, if_false, List.cons_append]
        exact .cons ⟨rfl, h2⟩ (ih nd.2 (by simpa [e] using hs))
/-! ### the object -/
theorem dicte_ok {P : Program} {w : World} {H : Hp} {h : Heap} {a : Addr} {g : Gh} (d : DictE a g h) : ObjOk P w H h a (.ext (DictE a g)) :=
  ⟨d, let ⟨o, ho, _⟩ := d; ⟨o, ho⟩, fun h1 h2 ⟨o, ho, hx, hd⟩ k => ⟨o, k _ ho, hx, hd⟩⟩
theorem dicte_at {P : Program} {w : World} {H : Hp} {h : Heap} {a : Addr} {g : Gh} (hok : HOk P w H h) (e : H a = some (.ext (DictE a g))) : DictE a g h := (show ObjOk P w H h a (.ext (DictE a g)) from hok a _ e).1
/-- a dict of the store, as the library's rules want it -/
theorem dct_viewO {X : Cx} {pins : List (Addr × Obj)} {σ : L2.St} {H : Hp} {s : Shared} {a : Addr} {kvs : List (D × D)} {g : Gh} (I : L2.Inv X pins σ H s) (ro : RO X.w X.K H a (.dct kvs g)) :
    kvs.length ≤ sizeLine ∧ (a == sysModules) = false ∧ (kvs.map fun p => nk p.1).Nodup ∧ (H a = some (.ext (DictE a g)) ∧ Paired (RE X.w X.K H) kvs g.1) ∧
      (allTup kvs = true → ∃ xs, s.heap.DictOfH (nestedKind X.prog X.w) a xs ∧ Paired (RT X.K H) kvs xs) ∧ (allFlat kvs = true → ∃ vs, s.heap.DictOf (mixKind X.prog X.w) a vs ∧ Paired (RF X.K H) kvs vs) := by
  obtain ⟨h1, h2, h3, h4, h5, h6⟩ := ro
  obtain ⟨o, ho, hx, hd⟩ := dicte_at I.hok h1
  refine ⟨h2, h3, h4, ⟨h1, h5⟩, fun ht => ?_, fun hf => ?_⟩
  · obtain ⟨xs, hxs, px⟩ := rt_of (P := X.prog) h5 ht
    refine ⟨xs, ⟨o, g.1.toArray, g.2, ho, hx, hd, by simpa using hxs, ?_, by rw [rt_nodup px]; exact h4⟩, px⟩
    have all : ∀ {kvs : List (D × D)} {xs : List (NestedKey × Addr × Value)}, Paired (RT X.K H) kvs xs → ∀ x ∈ xs, (nestedKind X.prog X.w).is s.heap x.1 x.2.1 := by
      intro kvs xs p
      induction p with
      | nil => intro x hx; cases hx
      | @cons p y r xs h t ih =>
        intro x hx
        rcases List.mem_cons.mp hx with rfl | hx
        · obtain ⟨g1, g2, g3, g4, _⟩ := h
          unfold keyOk at g1
          simp only [Bool.and_eq_true, decide_eq_true_eq] at g1
          exact ⟨by rw [g3]; exact nis I _ _ _ g4 g1.1 rfl, by rw [g3]; exact g1.2⟩
        · exact ih x hx
    exact all px
  · obtain ⟨vs, g1, g2, g3⟩ := rf_of (P := X.prog) h5 hf
    have g3' : KeysOf (mixKind X.prog X.w) g.1.toArray := fun e he => g3 e (by simpa using he)
    refine ⟨vs, ⟨o, g.1.toArray, g.2, ho, hx, hd, g3', by simpa using g1, ?_⟩, g2⟩
    have := rf_keys g2
    rw [this] at h4
    have key : ∀ {l : List Key}, (l.map fun k => nk (kD k)).Nodup → l.Nodup := by
      intro l
      induction l with
      | nil => intro _; exact List.nodup_nil
      | cons a r ih =>
        intro h
        rw [List.map_cons, List.nodup_cons] at h
        exact List.nodup_cons.mpr ⟨fun z => h.1 (List.mem_map.mpr ⟨a, z, rfl⟩), ih h.2⟩
    exact key h4
theorem dct_view {X : Cx} {pins : List (Addr × Obj)} {σ : L2.St} {H : Hp} {s : Shared} {S : Sto} {a : Addr} {kvs : List (D × D)} {g : Gh} (I : L2.Inv X pins σ H s) (rs : RS X.w X.K H S) (e : S a = some (.dct kvs g)) :
    kvs.length ≤ sizeLine ∧ (a == sysModules) = false ∧ (kvs.map fun p => nk p.1).Nodup ∧ (H a = some (.ext (DictE a g)) ∧ Paired (RE X.w X.K H) kvs g.1) ∧
      (allTup kvs = true → ∃ xs, s.heap.DictOfH (nestedKind X.prog X.w) a xs ∧ Paired (RT X.K H) kvs xs) ∧ (allFlat kvs = true → ∃ vs, s.heap.DictOf (mixKind X.prog X.w) a vs ∧ Paired (RF X.K H) kvs vs) := dct_viewO I (rs a _ e)
end TA
set_option Elab.async false
set_option linter.all false
set_option maxRecDepth 100000
set_option maxHeartbeats 2000000
/-! TA14c: dicts: get, in, set, lifted. -/
namespace TA
open PySem PySem.Spec L2
/-! ### pure facts of tables -/
theorem putK_len (k d : D) : ∀ kvs : List (D × D), (putK k d kvs).length ≤ kvs.length + 1
  | [] => by simp [putK]
  | (a, b) :: r => by
    unfold putK
    split
    · simp
    · have := putK_len k d r; simp; omega
theorem putK_keys (k d : D) : ∀ kvs : List (D × D), ∀ x, x ∈ (putK k d kvs).map (fun p => nk p.1) → x = nk k ∨ x ∈ kvs.map fun p => nk p.1
  | [], x, h => by simp [putK] at h; exact .inl h
  | (a, b) :: r, x, h => by
    unfold putK at h
    split at h
    · exact .inr (by simpa using h)
    · simp only [List.map_cons, List.mem_cons] at h ⊢
      rcases h with h | h
      · exact .inr (.inl h)
      · rcases putK_keys k d r x h with h | h
        · exact .inl h
        · exact .inr (.inr h)
theorem putK_nodup (k d : D) : ∀ {kvs : List (D × D)}, (kvs.map fun p => nk p.1).Nodup → ((putK k d kvs).map fun p => nk p.1).Nodup
  | [], _ => by simp [putK]
  | (a, b) :: r, h => by
    rw [List.map_cons, List.nodup_cons] at h
    unfold putK
    split
    · rename_i e
      rw [List.map_cons, List.nodup_cons]; exact h
    · rename_i e
      rw [List.map_cons, List.nodup_cons]
      refine ⟨fun z => ?_, putK_nodup k d h.2⟩
      rcases putK_keys k d r _ z with z | z
      · exact e z
      · exact h.1 z
theorem putK_all {f : D → Bool} (k d : D) (hk : f k = true) : ∀ {kvs : List (D × D)}, (kvs.all fun p => f p.1) = true → ((putK k d kvs).all fun p => f p.1) = true
  | [], _ => by simp [putK, hk]
  | (a, b) :: r, h => by
    simp only [List.all_cons, Bool.and_eq_true] at h
    unfold putK
    split
    · simp only [List.all_cons, Bool.and_eq_true]; exact h
    · simp only [List.all_cons, Bool.and_eq_true]; exact ⟨h.1, putK_all k d hk h.2⟩
theorem putK_sort {k d : D} {kvs : List (D × D)} (h : fitK k kvs = true) : (allTup (putK k d kvs) || allFlat (putK k d kvs)) = true := by
  unfold fitK at h
  simp only [Bool.and_eq_true, Bool.or_eq_true] at h ⊢
  rcases h.2 with h | h
  · exact .inl (putK_all k d h.1 h.2)
  · exact .inr (putK_all k d h.1 h.2)
/-! ### the store behind -/
theorem RS.dct {w : World} {K : PySem.W.Frag} {H : Hp} {S : Sto} {a : Addr} {g g2 : Gh} {kvs kvs2 : List (D × D)} (rs : RS w K H S) (e : S a = some (.dct kvs g)) (h : H a = some (.ext (DictE a g))) (hs : (a == sysModules) = false)
    (p : Paired (RE w K H) kvs2 g2.1) (hl : kvs2.length ≤ sizeLine) (hn : (kvs2.map fun p => nk p.1).Nodup) (hf : (allTup kvs2 || allFlat kvs2) = true) : RS w K (upd H a (.ext (DictE a g2))) (put S a (.dct kvs2 g2)) ∧ Ext H S (upd H a (.ext (DictE a g2))) (put S a (.dct kvs2 g2)) := by
  have t : Tups H (upd H a (.ext (DictE a g2))) := tups_set h (fun _ q => nomatch q) (fun _ _ q => nomatch q)
  exact ⟨rs.set h (fun _ q => nomatch q) (fun _ _ q => nomatch q) ⟨upd_same, hl, hs, hn, Paired.mapP p fun _ _ r => r.keep t, hf⟩, ext_set e⟩
section
variable {X : Cx} {pins : List (Addr × Obj)} {σ : L2.St} {H : Hp} {s : Shared} {S : Sto} {a : Addr} {kvs : List (D × D)} {g : Gh} {k d : D} {kV vV : V} {ku u : Value} {E : Value → Shared → Prop}
theorem tup_ref {K : PySem.W.Frag} (t : isTupD k = true) (rk : RD K H k kV) (q : RelV kV ku) : ∃ b, kV = .ref b ∧ ku = .ref b := by
  cases k with
  | tup xs =>
    obtain ⟨b, _, rfl, _⟩ := rd_tup.mp rk
    exact ⟨b, rfl, q⟩
  | _ => cases t
theorem tup_is (I : L2.Inv X pins σ H s) (fit : fitK k kvs = true) (t : isTupD k = true) {b : Addr} (rk : RD X.K H k (.ref b)) : (nestedKind X.prog X.w).is s.heap (nk k) b := by
  obtain ⟨h1, h2, _⟩ := fit_tup fit t
  exact ⟨nis I _ _ _ rk h1 rfl, h2⟩
theorem d_get (hu : X.A.units + 64 < cLine) (I : L2.Inv X pins σ H s) (rs : RS X.w X.K H S) (e : S a = some (.dct kvs g)) (fit : fitK k kvs = true) (rk : RD X.K H k kV) (q : RelV kV ku) (hd : keyD k kvs = some d) {Q : Value → Shared → Prop}
    (h : ∀ v vv s', L2.Inv X pins σ H s' → RelV vv v → RD X.K H d vv → Q v s') : wpAny (model X.prog X.w) X.A (getItem (.ref a) ku) Q E s := by
  obtain ⟨_, hs, _, _, vt, vf⟩ := dct_view I rs e
  cases t : isTupD k with
  | true =>
    obtain ⟨_, _, at_⟩ := fit_tup fit t
    obtain ⟨xs, hm, px⟩ := vt at_
    obtain ⟨b, rfl, rfl⟩ := tup_ref t rk q
    have := rt_at (k := k) px
    rw [hd] at this
    obtain ⟨p, vv, h1, h2, h3⟩ := this
    exact wpAny_getItem_heap (show X.A.units + 1 + 8 < cLine by omega) (tup_is I fit t rk) hm h1 (h _ vv _ (I.tok _) h2 h3)
  | false =>
    obtain ⟨_, fk, af⟩ := fit_flat fit t
    obtain ⟨vs, hm, px⟩ := vf af
    obtain ⟨kk, rfl⟩ := flat_key fk
    have := rf_at (k := kk) px
    rw [hd] at this
    obtain ⟨v, vv, h1, h2, h3⟩ := this
    exact wpAny_getItem_of (kD_is rk q).1 hm.mapOf h1 (h _ vv _ (I.tok _) h2 h3)
theorem d_has (hu : X.A.units + 64 < cLine) (I : L2.Inv X pins σ H s) (rs : RS X.w X.K H S) (e : S a = some (.dct kvs g)) (fit : fitK k kvs = true) (rk : RD X.K H k kV) (q : RelV kV ku) {Q : Value → Shared → Prop} (neg : Bool)
    (h : ∀ s', L2.Inv X pins σ H s' → Q (.bool (if neg = true then !(keyD k kvs).isSome else (keyD k kvs).isSome)) s') : wpAny (model X.prog X.w) X.A (compareOp (if neg = true then .NotIn else .In) ku (.ref a)) Q E s := by
  obtain ⟨_, hs, _, _, vt, vf⟩ := dct_view I rs e
  cases t : isTupD k with
  | true =>
    obtain ⟨_, _, at_⟩ := fit_tup fit t
    obtain ⟨xs, hm, px⟩ := vt at_
    obtain ⟨b, rfl, rfl⟩ := tup_ref t rk q
    have eq : (atKey xs (nk k)).isSome = (keyD k kvs).isSome := by
      have := rt_at (k := k) px
      cases hk : keyD k kvs with
      | some d => rw [hk] at this; obtain ⟨p, _, h1, _⟩ := this; rw [h1]; rfl
      | none => rw [hk] at this; rw [this]; rfl
    have hr : (nestedKind X.prog X.w).room X.A.in1 := show X.A.units + 1 + 8 < cLine by omega
    cases neg with
    | false =>
      refine wpAny_in_heap hr (tup_is I fit t rk) hs hm ?_
      rw [eq]; exact h _ (I.tok _)
    | true =>
      show wpAny _ _ (do return Value.bool (!(← contains (.ref a) (.ref b)))) _ _ _
      refine wpAny_bind (wpAny_contains_heap hr (tup_is I fit t rk) hs hm (wpAny_pure ?_))
      rw [eq]; exact h _ (I.tok _)
  | false =>
    obtain ⟨_, fk, af⟩ := fit_flat fit t
    obtain ⟨vs, hm, px⟩ := vf af
    obtain ⟨kk, rfl⟩ := flat_key fk
    have eq : (valueAt vs kk).isSome = (keyD (kD kk) kvs).isSome := by
      have := rf_at (k := kk) px
      cases hk : keyD (kD kk) kvs with
      | some d => rw [hk] at this; obtain ⟨p, _, h1, _⟩ := this; rw [h1]; rfl
      | none => rw [hk] at this; rw [this]; rfl
    cases neg with
    | false =>
      refine wpAny_in_of (kD_is rk q).1 hs hm.mapOf ?_
      rw [eq]; exact h _ (I.tok _)
    | true =>
      refine wpAny_notIn_of (kD_is rk q).1 hs hm.mapOf ?_
      rw [eq]; exact h _ (I.tok _)
/-- what a written dict's object is -/
theorem d_wrote (I : L2.Inv X pins σ H s) {g2 : Gh} {h' : Heap} {tk : Nat} (h : H a = some (.ext (DictE a g))) (d2 : DictE a g2 h') (sb : Heap.SameBut a s.heap h') : L2.Inv X pins σ (upd H a (.ext (DictE a g2))) { s with heap := h', toks := tk } :=
  d_write I (by rw [h]; trivial) sb (let ⟨o, ho, _⟩ := d2; ⟨o, ho⟩) (dicte_ok d2)
theorem d_put (hu : X.A.units + 64 < cLine) (I : L2.Inv X pins σ H s) (rs : RS X.w X.K H S) (e : S a = some (.dct kvs g)) (fit : fitK k kvs = true) (rk : RD X.K H k kV) (q : RelV kV ku) (rv : RD X.K H d vV) (qv : RelV vV u) (hz : kvs.length < sizeLine) {Q : Unit → Shared → Prop}
    (h : ∀ H' g' s', L2.Inv X pins σ H' s' → RS X.w X.K H' (put S a (.dct (putK k d kvs) g')) → Ext H S H' (put S a (.dct (putK k d kvs) g')) → Q () s') : wpAny (model X.prog X.w) X.A (setItem (.ref a) ku u) Q E s := by
  obtain ⟨hl, hs, hn, ⟨he, pe⟩, vt, vf⟩ := dct_view I rs e
  have hl2 : (putK k d kvs).length ≤ sizeLine := by have := putK_len k d kvs; omega
  cases t : isTupD k with
  | true =>
    obtain ⟨_, _, at_⟩ := fit_tup fit t
    obtain ⟨xs, hm, px⟩ := vt at_
    obtain ⟨b, rfl, rfl⟩ := tup_ref t rk q
    have hxl : xs.length ≤ sizeLine := by rw [← Paired.length px]; exact hl
    have kok : keyOk k = true := by unfold fitK at fit; simp only [Bool.and_eq_true] at fit; exact fit.1
    refine wpAny_setItem_heap (show X.A.units + 1 + 8 < cLine by omega) (tup_is I fit t rk) hm (fun h' hm' sb => ?_) (hsz := hxl)
    have px2 := rt_put kok t rk qv rv px hn
    obtain ⟨o2, es2, ep2, ho2, hx2, hd2, hes2, _⟩ := hm'
    have d2 : DictE a ((storedH xs (nk k) b u).map (entryOfKey (nestedKind X.prog X.w)), ep2) h' := ⟨o2, ho2, hx2, by rw [hd2, ← hes2, Array.toArray_toList]⟩
    obtain ⟨r1, r2⟩ := rs.dct (g2 := (_, ep2)) e he hs (re_of px2) hl2 (putK_nodup k d hn) (putK_sort fit)
    exact h _ _ _ (d_wrote I he d2 sb) r1 r2
  | false =>
    obtain ⟨_, fk, af⟩ := fit_flat fit t
    obtain ⟨vs, hm, px⟩ := vf af
    obtain ⟨kk, rfl⟩ := flat_key fk
    have hxl : vs.length ≤ sizeLine := by rw [← Paired.length px]; exact hl
    have nd : (vs.map (·.1)).Nodup := by obtain ⟨_, _, _, _, _, _, _, _, nd⟩ := hm; exact nd
    refine wpAny_setItem_pairs (kD_is rk q).1 hm (fun h' hm' sb => ?_) (hsz := hxl)
    have px2 := rf_put (k := kk) qv rv px nd
    obtain ⟨o2, es2, ep2, ho2, hx2, hd2, hks, hps, _⟩ := hm'
    have d2 : DictE a (es2.toList, ep2) h' := ⟨o2, ho2, hx2, by rw [hd2, Array.toArray_toList]⟩
    obtain ⟨r1, r2⟩ := rs.dct (g2 := (_, ep2)) e he hs (rf_back hps px2 fun e he => hks e (by simpa using he)) hl2 (putK_nodup _ d hn) (putK_sort fit)
    exact h _ _ _ (d_wrote I he d2 sb) r1 r2
end
end TA
set_option Elab.async false
set_option linter.all false
set_option maxRecDepth 100000
set_option maxHeartbeats 2000000
/-! TA14d: dicts: subscripts, in, stores, displays, lifted. -/
namespace TA
open PySem PySem.Spec L2
open PyProof.Rows (subscriptTail)
theorem ta_tail {prog : Program} {w : World} {A : Around} {E : Value → Shared → Prop} {s : Shared} {value slice : Expr} {o i : Value} {T id : String} {Q : Value → Shared → Prop} (hT : s.TypeIs o T)
    (hl : typeLookup (.type T) "__getitem__" = pure (some (.builtin id))) (h : wpAny (model prog w) A (getItem o i) Q E s) (hs : subscripted slice false o i = operate [o, i] (getItem o i)) :
    wpAny (model prog w) A (subscriptTail value slice o i) Q E s := by
  unfold subscriptTail
  refine wpAny_bind ?_
  rw [getitemInPython_of_ne hT.not_modules]
  refine wpAny_bind (wpAny_specialOf hT hl ?_)
  have fin : wpAny (model prog w) A (subscripted slice false o i) (fun r s₃ => wpAny (model prog w) A (letTemporaryGo value o r >>= fun _ => pure r) Q E s₃) E s := by
    rw [hs]
    exact wpAny_operating (wpAny_mono h (fun r s₃ h₃ => wpAny_bind (wpAny_letTemporaryGo (wpAny_pure h₃))) fun _ _ x => x)
  first
    | exact wpAny_pure (wpAny_bind fin)
    | exact wpAny_bind (wpAny_pure (wpAny_bind fin))
    | exact wpAny_bind fin
section
variable {X : Cx} {pins : List (Addr × Obj)} {σ : L2.St} {H : Hp} {s : Shared} {S : Sto} {a : Addr} {kvs : List (D × D)} {g : Gh} {k d : D} {kV vV : V} {ku u : Value} {E : Value → Shared → Prop}
/-- an entry laid (a display, a comprehension) -/
theorem d_dset (hu : X.A.units + 64 < cLine) (I : L2.Inv X pins σ H s) (ro : RO X.w X.K H a (.dct kvs g)) (fit : fitK k kvs = true) (rk : RD X.K H k kV) (q : RelV kV ku) (rv : RD X.K H d vV) (qv : RelV vV u) (hz : kvs.length < sizeLine) {Q : Unit → Shared → Prop}
    (h : ∀ (g2 : Gh) s', Paired (RE X.w X.K H) (putK k d kvs) g2.1 → L2.Inv X pins σ (upd H a (.ext (DictE a g2))) s' → Q () s') : wpAny (model X.prog X.w) X.A (dictSet a ku u) Q E s := by
  obtain ⟨hl, hs, hn, ⟨he, pe⟩, vt, vf⟩ := dct_viewO I ro
  cases t : isTupD k with
  | true =>
    obtain ⟨_, _, at_⟩ := fit_tup fit t
    obtain ⟨xs, hm, px⟩ := vt at_
    obtain ⟨b, rfl, rfl⟩ := tup_ref t rk q
    have hxl : xs.length ≤ sizeLine := by rw [← Paired.length px]; exact hl
    have kok : keyOk k = true := by unfold fitK at fit; simp only [Bool.and_eq_true] at fit; exact fit.1
    refine wpAny_dictSet_heap (hsz := hxl) (show X.A.units + 8 < cLine by omega) (tup_is I fit t rk) hm (fun h' hm' sb => ?_)
    have px2 := rt_put kok t rk qv rv px hn
    obtain ⟨o2, es2, ep2, ho2, hx2, hd2, hes2, _⟩ := hm'
    exact h (_, ep2) _ (re_of px2) (d_wrote I he ⟨o2, ho2, hx2, by rw [hd2, ← hes2, Array.toArray_toList]⟩ sb)
  | false =>
    obtain ⟨_, fk, af⟩ := fit_flat fit t
    obtain ⟨vs, hm, px⟩ := vf af
    obtain ⟨kk, rfl⟩ := flat_key fk
    have hxl : vs.length ≤ sizeLine := by rw [← Paired.length px]; exact hl
    have nd : (vs.map (·.1)).Nodup := by obtain ⟨_, _, _, _, _, _, _, _, nd⟩ := hm; exact nd
    refine wpAny_dictSet_pairs (hsz := hxl) (kD_is rk q).1 hm (fun h' hm' sb => ?_)
    have px2 := rf_put (k := kk) qv rv px nd
    obtain ⟨o2, es2, ep2, ho2, hx2, hd2, hks, hps, _⟩ := hm'
    exact h (_, ep2) _ (rf_back hps px2 fun e he => hks e (by simpa using he)) (d_wrote I he ⟨o2, ho2, hx2, by rw [hd2, Array.toArray_toList]⟩ sb)
theorem dct_type (I : L2.Inv X pins σ H s) (ro : RO X.w X.K H a (.dct kvs g)) : s.TypeIs (.ref a) "dict" := by
  obtain ⟨h1, _⟩ := ro
  obtain ⟨o, ho, hx, hd⟩ := dicte_at I.hok h1
  exact ⟨o, ho, hx.1⟩
end
section
variable {X : Cx}
theorem dd_ix (hu : X.A.units + 65 < cLine) : IxR X (rIxD X.w X.K) := by
  intro value slice pins s σ H x y v u Q I rx ry h hs
  obtain ⟨dx, dy, S, P, rdx, rdy, rs, ⟨a, kvs, g, r, rfl, eS, fit, hd, hp⟩, hP⟩ := h
  rw [rd_ref] at rdx; subst rdx
  cases rx
  exact ta_tail (dct_type I (rs a _ eS)) slot_dict_getitem.lookup (d_get (by omega) I rs eS fit rdy ry hd fun v vv s' I' q rd => ⟨vv, H, I', q, hP _ _ _ _ hp rd rs .refl⟩) hs
theorem dd_set (hu : X.A.units + 65 < cLine) : DctSet X := fun pins s σ H S a kvs g i v iV vV iv u Q I rs eS ri rv qi qv fit hz h =>
  d_put (by omega) I rs eS fit ri qi rv qv hz fun H' g' s' I' rs' e' => ⟨H', I', h H' g' rs' e'⟩
theorem in_dep {neg : Bool} {pins : List (Addr × Obj)} {s : Shared} {σ : L2.St} {H : Hp} {S : Sto} {x y : V} {v u : Value} {Q : VK} {a : D} {qs : List PyData} {p : PyData} (hu : X.A.units + 65 < cLine) (I : L2.Inv X pins σ H s) (rx : RelV x v) (ry : RelV y u) (rs : RS X.w X.K H S) (ra : RD X.K H a x)
    (hp : pd S a = some p) (hy : Dp X.K H y (.list qs) ∨ Dp X.K H y (.tuple qs)) (sp : SeqAt.shaped p = true) (sq : PyData.canLayAll0 qs = true) (h : Q (.bl (if neg = true then !(qs.any fun y => PyData.eqv y p) else qs.any fun y => PyData.eqv y p)) H) :
    wpAny (model X.prog X.w) X.A (compareOp (if neg = true then .NotIn else .In) v u) (EP X pins σ Q) X.xe s := by
  cases neg with
  | false => exact op_inA hu pins s σ H x y v u Q I rx ry ⟨p, qs, pd_dp rs ra hp, hy, sp, sq, h⟩
  | true => exact op_ninA hu pins s σ H x y v u Q I rx ry ⟨p, qs, pd_dp rs ra hp, hy, sp, sq, h⟩
theorem in_all (hu : X.A.units + 65 < cLine) (neg : Bool) {pins : List (Addr × Obj)} {s : Shared} {σ : L2.St} {H : Hp} {S : Sto} {x y : V} {v u : Value} {Q : VK} {a b : D} {R : Bool → Prop} (I : L2.Inv X pins σ H s) (rx : RelV x v) (ry : RelV y u) (rs : RS X.w X.K H S) (ra : RD X.K H a x) (rb : RD X.K H b y)
    (h : inD S a b R) (hR : ∀ k, R k → Q (.bl (if neg = true then !k else k)) H) : wpAny (model X.prog X.w) X.A (compareOp (if neg = true then .NotIn else .In) v u) (EP X pins σ Q) X.xe s := by
  unfold inD at h
  split at h
  · obtain ⟨p, qs, h1, h2, h3, h4, h5⟩ := h
    refine in_dep hu I rx ry rs ra h1 (.inr (tups_dp rs rb h2)) h3 h4 ?_
    have := hR _ h5
    exact this
  · obtain ⟨z, rfl, h5⟩ := h
    rw [rd_str] at ra rb
    subst ra rb
    cases neg with
    | false => exact op_in_str pins s σ H _ _ v u Q I rx ry ⟨_, _, rfl, rfl, hR _ h5⟩
    | true => exact op_notin_str pins s σ H _ _ v u Q I rx ry ⟨_, _, rfl, rfl, hR _ h5⟩
  · rw [rd_ref] at rb; subst rb
    split at h
    · rename_i eS
      obtain ⟨p, qs, h1, h2, h3, h4, h5⟩ := h
      exact in_dep hu I rx ry rs ra h1 (.inl (lsts_dp rs eS h2)) h3 h4 (hR _ h5)
    · rename_i eS
      cases ry
      exact d_has (by omega) I rs eS h.1 ra rx neg fun s' I' => ⟨.bl _, H, I', rfl, hR _ h.2⟩
    · exact h.elim
  · exact h.elim
theorem dd_in (hu : X.A.units + 65 < cLine) : OpR X (compareOp .In) (liftR X.w X.K (cmpV .In)) := fun pins s σ H x y v u Q I rx ry ⟨a, b, S, P, ra, rb, rs, hf, hP⟩ =>
  in_all hu false I rx ry rs ra rb hf fun k hk => hP _ _ _ _ hk (rd_bl.mpr rfl) rs .refl
theorem dd_nin (hu : X.A.units + 65 < cLine) : OpR X (compareOp .NotIn) (liftR X.w X.K (cmpV .NotIn)) := fun pins s σ H x y v u Q I rx ry ⟨a, b, S, P, ra, rb, rs, hf, hP⟩ =>
  in_all hu true I rx ry rs ra rb hf fun k hk => hP _ _ _ _ hk (rd_bl.mpr rfl) rs .refl
/-! ### displays -/
theorem ro_empty {P : Program} {w : World} {K : PySem.W.Frag} {H : Hp} {h : Heap} {p : Addr} (hb : sysModules < h.objs.size) (hp : p = h.objs.size) : ObjOk P w (upd H p (.ext (DictE p ([], 0)))) (h.push { cls := .type "dict", data := .dict #[] }) p (.ext (DictE p ([], 0))) ∧ RO w K (upd H p (.ext (DictE p ([], 0)))) p (.dct [] ([], 0)) := by
  subst hp
  refine ⟨dicte_ok ⟨_, Heap.get?_push_size _ rfl, ⟨rfl, rfl, rfl⟩, rfl⟩, upd_same, Nat.zero_le _, ?_, List.nodup_nil, .nil, rfl⟩
  exact beq_eq_false_iff_ne.mpr (Nat.ne_of_gt hb)
theorem dd_dct0 {W : WX} {Γ : List DSp} {fs : List (Str × D)} {pos : Pos} : PE X (.Dict [] [] pos) (liftE X.w X.K W (wpE Γ fs (.dct .nil .nil))) := by
  refine ⟨fun pins s σ H Q I ⟨σd, S, E, P, rv, rs, wr, hw, hP⟩ => ?_⟩
  simp only [wpE, wpEs] at hw
  have hn := I.hok.fresh (Nat.le_refl s.heap.objs.size)
  obtain ⟨o1, ro⟩ := ro_empty (P := X.prog) (w := X.w) (K := X.K) (H := H) I.big (p := s.heap.objs.size) rfl
  refine wpAny_Dict_empty ⟨.ref s.heap.objs.size, _, I.laid (a := s.heap.objs.size) (o := .ext (DictE s.heap.objs.size ([], 0))) (t' := s.toks) (fun _ _ q => Heap.get?_push_of_some _ q) (Nat.le_refl _) o1, rfl, ?_⟩
  exact hP _ _ _ _ (hw.2 _ ([], 0) (rs.free hn)) (rd_ref.mpr rfl) (rs.lay hn ro) (ext_lay hn)
end
end TA
set_option Elab.async false
set_option linter.all false
set_option maxRecDepth 100000
set_option maxHeartbeats 2000000
/-! TA14e: dict comprehensions, displays of one pair. -/
namespace TA
open PySem PySem.Spec L2
section
variable {X : Cx}
/-- {k: v for target in iter if ..}: D the new dict -/
def tDcX (w : World) (K : PySem.W.Frag) (wi : TI) (g : TG) (tt : TT) (tk tv : TE) (vs : List Nat) : TE := fun σ H Q => wi σ H fun J H1 => ∀ D, H1 D = none → (D == sysModules) = false → ∃ W : Nat → Nat → Hp → Prop, (∃ m, W 0 m (upd H1 D (.ext (DictE D ([], 0))))) ∧ ∀ i m H, W i m H →
  (J.stop i H ∧ Q (.ref D) H) ∨ (J.go i H ∧ ∃ Nx : Hp → Prop, (∀ H', Nx H' → ∃ m', m' < m ∧ W (i + 1) m' H') ∧ ∀ x H', J.yld i H x H' → g x (L2.wipe σ vs) H' fun σ2 H2 => L2.wipe σ2 vs = L2.wipe σ vs ∧ tt σ2 H2 fun b H3 =>
    if b = true then tk σ2 H3 fun y H4 => tv σ2 H4 fun z H5 => ∃ kvs g kd dd, RO w K H5 D (.dct kvs g) ∧ fitK kd kvs = true ∧ RD K H5 kd y ∧ RD K H5 dd z ∧ kvs.length < sizeLine ∧ ∀ g2 : Gh, Paired (RE w K H5) (putK kd dd kvs) g2.1 → Nx (upd H5 D (.ext (DictE D g2))) else Nx H3)
theorem dcx_core {pins : List (Addr × Obj)} {s : Shared} {σ : L2.St} {H : Hp} {Q : VK} {kx vx tg iter : Expr} {ifs : List Expr} {scope : Scope} {own : List (Str × Nat)} {pos pos' : Pos} {wi : TI} {g : TG} {tt : TT} {tk tv : TE} {use : Option (Value → Sem Unit)} {Qf : Value → Shared → Prop}
    (hu : X.A.units + 65 < cLine) (hc : X.calm = true) (hN : X.N.Nodup) (I : L2.Inv X pins σ H s) (hi : PI X tg iter wi) (ok : BlkOk X.N X.env.scope scope own)
    (hg : ∀ (s : Shared) (H : Hp) (C : Addr) (cl : List (Str × Addr)) (fp : List Addr), PG (X.blk s H scope (compEnvC scope cl C X.env) fp) tg g) (ht : ∀ (s : Shared) (H : Hp) (C : Addr) (cl : List (Str × Addr)) (fp : List Addr), PTs (X.blk s H scope (compEnvC scope cl C X.env) fp) ifs tt)
    (hk : ∀ (s : Shared) (H : Hp) (C : Addr) (cl : List (Str × Addr)) (fp : List Addr), PE (X.blk s H scope (compEnvC scope cl C X.env) fp) kx tk)
    (he : ∀ (s : Shared) (H : Hp) (C : Addr) (cl : List (Str × Addr)) (fp : List Addr), PE (X.blk s H scope (compEnvC scope cl C X.env) fp) vx tv) (hs : ∀ x, foldedSetIterable iter X.env x = pure x)
    (h : tDcX X.w X.K wi g tt tk tv (own.map (·.2)) σ H Q)
    (hRR : ∀ D C s' m H', L2.Inv X pins σ H' s' → Q (.ref D) H' → s'.heap.Ns C m → FpOk X pins H' C → compPost (model X.prog X.w) X.A X.xe use Qf (.ref D) C (.ok .next) s') :
    wpAny (model X.prog X.w) X.A (comprehension (.DictComp kx vx [⟨tg, iter, ifs, 0⟩] scope pos) scope X.env pos' newDict false (eval iter X.env) use) Qf X.xe s := by
  have hfree : ∀ y ∈ scope.names, y.2 = .free → ∃ c, X.env.cells.lookup y.1 = some c := fun y hy e => by
    rcases ok.free y hy e with k | k
    · exact I.ok.has _ (.inl k)
    · exact I.ok.has _ (.inr k)
  refine wpAny_comprehension_free (use := use) rfl hs (closure_ok hfree) ok.kind (fun y hy e => by rw [ok.uniq y hy, e])
    (thn (hi.run pins s σ H _ I h) fun xv s1 hx => thn hx fun itv s2 h2 => ?_)
  obtain ⟨it, fp, tn, J, H2, e, I2, T, st2, f2, q⟩ := h2
  subst e
  refine wpAny_newObj_type (newEnv_comp ?_)
  generalize hD : s2.heap.objs.size = D
  have hDn : H2 D = none := I2.hok.fresh (Nat.le_of_eq hD)
  obtain ⟨W, ⟨m0, w0⟩, turn⟩ := q D hDn (beq_eq_false_iff_ne.mpr (by rw [← hD]; exact Nat.ne_of_gt I2.big))
  -- the new list
  generalize hs3 : ({ s2 with heap := s2.heap.push { cls := .type "dict", data := .dict #[] } } : Shared) = s3
  have I3 : L2.Inv X pins σ (upd H2 D (.ext (DictE D ([], 0)))) s3 := by
    rw [← hs3]
    refine I2.laid (t' := s2.toks) (fun b o e => Heap.get?_push_of_some _ e) (Nat.le_of_eq hD) ?_
    rw [← hD]
    exact (ro_empty (K := X.K) I2.big rfl).1
  have h3 : s3.heap = s2.heap.push { cls := .type "dict", data := .dict #[] } := by rw [← hs3]
  have sz : ∀ b ∈ fp, b < s2.heap.objs.size := fun b hb => by
    obtain ⟨o, e, _⟩ := T.obj _ _ st2 b hb
    exact Heap.lt_size e
  have f3 : ∀ b ∈ fp, FpOk X pins (upd H2 D (.ext (DictE D ([], 0)))) b ∧ b < s3.heap.objs.size := fun b hb => by
    have hlt := sz b hb
    refine ⟨⟨?_, (f2 b hb).2⟩, by rw [h3, Heap.size_push]; exact Nat.lt_succ_of_lt hlt⟩
    rw [upd_ne (by rw [← hD]; exact Nat.ne_of_lt hlt)]
    exact (f2 b hb).1
  have st3 : tn 0 s3.heap := T.keep _ _ _ st2 fun b _ o e => by rw [h3]; exact Heap.get?_push_of_some _ e
  have I4 := block_start I3 ok hN f3
  have pg := hg s3 (upd H2 D (.ext (DictE D ([], 0)))) s3.heap.objs.size (cellsFrom (s3.heap.objs.size + 1) scope.names (cloFrom X.env.cells scope.names [])) fp
  have pt := ht s3 (upd H2 D (.ext (DictE D ([], 0)))) s3.heap.objs.size (cellsFrom (s3.heap.objs.size + 1) scope.names (cloFrom X.env.cells scope.names [])) fp
  have pk := hk s3 (upd H2 D (.ext (DictE D ([], 0)))) s3.heap.objs.size (cellsFrom (s3.heap.objs.size + 1) scope.names (cloFrom X.env.cells scope.names [])) fp
  have pe := he s3 (upd H2 D (.ext (DictE D ([], 0)))) s3.heap.objs.size (cellsFrom (s3.heap.objs.size + 1) scope.names (cloFrom X.env.cells scope.names [])) fp
  show codeAny _ _ (.compStart (.DictComp kx vx [⟨tg, iter, ifs, 0⟩] scope pos) 0 (.ref it) (.ref D) (compEnvC scope (cellsFrom (s3.heap.objs.size + 1) scope.names (cloFrom X.env.cells scope.names [])) s3.heap.objs.size X.env)) (compPost (model X.prog X.w) X.A X.xe use Qf (.ref D) s3.heap.objs.size) { s3 with heap := pushCells (s3.heap.push { cls := .type "dict", data := .dict #[] }) scope.names }
  have nfp : ∀ b ∈ fp, (upd H2 D (.ext (DictE D ([], 0)))) b = none := fun b hb => (f3 b hb).1.1
  generalize hce : compEnvC scope (cellsFrom (s3.heap.objs.size + 1) scope.names (cloFrom X.env.cells scope.names [])) s3.heap.objs.size X.env = ce at I4 pg pt pk pe ⊢
  have cL : ce.locals = s3.heap.objs.size := by subst hce; rfl
  generalize hH3 : upd H2 D (.ext (DictE D ([], 0))) = H3 at I3 I4 pg pt pk pe w0 nfp f3
  generalize hs4 : ({ s3 with heap := pushCells (s3.heap.push { cls := .type "dict", data := .dict #[] }) scope.names } : Shared) = s4 at I4 ⊢
  have st4 : tn 0 s4.heap := T.keep _ _ _ st3 fun b _ o e => by rw [← hs4]; exact pushCells_keeps _ _ _ _ (Heap.get?_push_of_some _ e)
  have stat : ∀ {σ' : St} {H' : Hp} {s' : Shared}, L2.Inv (X.blk s3 H3 scope ce fp) [] σ' H' s' → (∀ b ∈ fp, H' b = none) → ∀ b ∈ fp, FpOk (X.blk s3 H3 scope ce fp) [] H' b := fun {σ' H' s'} I' hn b hb =>
    ⟨hn b hb, (I'.ok.exf b hb).1, I'.ok.exfs b hb, .inl hb, fun x c e => (I'.ok.exf b hb).2 x c e, fun p hp => absurd (show p ∈ ([] : List (Addr × Obj)) ++ [] from hp) (by simp)⟩
  have loop : codeAny (model X.prog X.w) X.A (.compLoop (.DictComp kx vx [⟨tg, iter, ifs, 0⟩] scope pos) 0 (.ref it) (.ref D) ce) (compPost (model X.prog X.w) X.A X.xe use Qf (.ref D) s3.heap.objs.size) s4 := by
    refine compLoop_anyD (fun n s' => ∃ i H', L2.Inv (X.blk s3 H3 scope ce fp) [] (L2.wipe σ (own.map (·.2))) H' s' ∧ tn i s'.heap ∧ (∀ b ∈ fp, H' b = none) ∧ W i n H') ?_ m0 ⟨0, H3, I4, st4, nfp, w0⟩
    rintro n s5 ⟨i, H5, I5, st5, n5, w5⟩
    rcases turn i n H5 w5 with ⟨stop, qq⟩ | ⟨go, Nx, hNx, step⟩
    · have td := T.done (X.blk s3 H3 scope ce fp) rfl rfl rfl hc i [] s5 _ H5 (fun _ _ => False) I5 (stat I5 n5) st5 stop
      refine thnF td fun r s6 ⟨hr, I6⟩ => ?_
      subst hr
      -- back in the def's context
      have I7 : L2.Inv X pins σ H5 s6 := I3.call' (ch := fp) I6.os I6.base I6.hok I6.bare fun b hb => ⟨(f3 b hb).1.2.2.2.1, (f3 b hb).1.2.1, (f3 b hb).1.2.2.2.2.1, (f3 b hb).1.2.2.2.2.2⟩
      have nC : H5 s3.heap.objs.size = none := by
        have z : H5 ce.locals = none := I6.free
        rw [cL] at z
        exact z
      obtain ⟨m, hn, _⟩ := I6.loc
      have hn : s6.heap.Ns ce.locals m := hn
      rw [cL] at hn
      exact hRR D s3.heap.objs.size s6 m H5 I7 qq hn (I3.fpOk (Nat.le_refl _) nC)
    · have ti := T.item (X.blk s3 H3 scope ce fp) rfl rfl rfl hc i [] s5 _ H5 (fun _ _ => False) I5 (stat I5 n5) st5 go
      refine thnF ti fun r s6 ⟨u, hr, h6⟩ => ?_
      subst hr
      refine thnF h6 fun _ s7 ⟨x, H7, I7, r7, y7, st7, n7⟩ => ?_
      have I7' := I7.pinned (stat I7 n7) (T.obj _ _ st7)
      refine thnF (pg.run _ s7 _ H7 x u _ I7' r7 (step x H7 y7)) fun _ s8 ⟨σ8, H8, I8, hw8, q8⟩ => ?_
      refine thnF (pt.run _ s8 σ8 H8 _ I8 q8) fun b s9 ⟨H9, I9, q9⟩ => ?_
      -- the turn's end
      have fin : ∀ {s' : Shared} {H' : Hp}, L2.Inv (X.blk s3 H3 scope ce fp) ([] ++ pinsAt fp s7.heap) σ8 H' s' → Nx H' → ∃ m, m < n ∧ ∃ i H', L2.Inv (X.blk s3 H3 scope ce fp) [] (L2.wipe σ (own.map (·.2))) H' s' ∧ tn i s'.heap ∧ (∀ b ∈ fp, H' b = none) ∧ W i m H' := fun {s' H'} I' nx => by
        obtain ⟨m', hm, w'⟩ := hNx H' nx
        have pin' : ∀ b ∈ fp, ∀ o, s7.heap.get? b = some o → s'.heap.get? b = some o ∧ H' b = none := fun b hb o e =>
          let z := I'.pin (b, o) (List.mem_append_right _ (List.mem_append_right _ (mem_pinsAt hb e)))
          ⟨z.1, z.2.1⟩
        have hl : (L2.wipe σ (own.map (·.2))).length = σ8.length := by rw [← hw8, L2.wipe_length]
        refine ⟨m', hm, i + 1, H', (I'.unpinned (pins := [])).weak hl (fun j v e => ?_), T.keep _ _ _ st7 fun b hb o e => (pin' b hb o e).1, fun b hb => ?_, w'⟩
        · rw [← hw8] at e
          exact (L2.wipe_some e).1
        · obtain ⟨o, e, _⟩ := T.obj _ _ st7 b hb
          exact (pin' b hb o e).2
      cases b with
      | false =>
        simp only [Bool.false_eq_true, if_false] at q9 ⊢
        exact fin I9 q9
      | true =>
        simp only [if_true] at q9 ⊢
        refine thnF (pk.run _ s9 σ8 H9 _ I9 q9) fun z s10 ⟨yk, H10, I10, r10, q10⟩ => ?_
        refine thnF (pe.run _ s10 σ8 H10 _ I10 q10) fun z2 s11 ⟨yv, H11, I11, r11, kvs, gh, kd, dd, hro, fit, rk, rd, hz11, nx⟩ => ?_
        exact d_dset (X := X.blk s3 H3 scope ce fp) (by show X.A.units + 64 < cLine; omega) I11 hro fit rk r10 rd r11 hz11 fun g2 s12 pr I12 => fin I12 (nx g2 pr)
  exact codeAny_compStart_dict loop (T.self X.A 0 _ _ _ st4 loop)

end
end TA
set_option Elab.async false
set_option linter.all false
set_option maxRecDepth 100000
set_option maxHeartbeats 2000000
/-! TA14f: dict comprehensions, displays of one pair, lifted. -/
namespace TA
open PySem PySem.Spec L2
section
variable {w : World} {K : PySem.W.Frag} {X : Cx} {W : WX} {Γ : List DSp} {fs : List (Str × D)}
theorem RS.ownO {H : Hp} {S : Sto} {p : Addr} {so : SO} (rs : RS w K H S) (ro : RO w K H p so) : RS w K H (put S p so) := fun a u e => by
  by_cases ne : a = p
  · subst ne; rw [put_same] at e; cases e; exact ro
  · rw [put_ne ne] at e; exact rs a u e
theorem RO.ext {H H' : Hp} {S S' : Sto} {p : Addr} {kvs : List (D × D)} {g : Gh} (rs : RS w K H S) (ro : RO w K H p (.dct kvs g)) (n : S p = none) (e : Ext H S H' S') : RO w K H' p (.dct kvs g) ∧ S' p = none := by
  have ⟨h1, _⟩ := ro
  exact ⟨ro.keep (e.tups rs) fun u hu => (e.out p u hu n).1, (e.out p _ h1 n).2⟩
theorem RO.put {H : Hp} {p : Addr} {kvs : List (D × D)} {k d : D} {g g2 : Gh} (ro : RO w K H p (.dct kvs g)) (fit : fitK k kvs = true) (hz : kvs.length < sizeLine) (pr : Paired (RE w K H) (putK k d kvs) g2.1) : RO w K (upd H p (.ext (DictE p g2))) p (.dct (putK k d kvs) g2) ∧ Tups H (upd H p (.ext (DictE p g2))) := by
  obtain ⟨h1, h2, h3, h4, h5, h6⟩ := ro
  have t : Tups H (upd H p (.ext (DictE p g2))) := tups_set h1 (fun _ q => nomatch q) (fun _ _ q => nomatch q)
  exact ⟨⟨upd_same, by have := putK_len k d kvs; omega, h3, putK_nodup k d h4, Paired.mapP pr fun _ _ r => r.keep t, putK_sort fit⟩, t⟩
theorem RS.otherD {H : Hp} {S : Sto} {p : Addr} {kvs : List (D × D)} {g g2 : Gh} (rs : RS w K H S) (ro : RO w K H p (.dct kvs g)) (n : S p = none) : RS w K (upd H p (.ext (DictE p g2))) S := fun a u e => by
  have ⟨h1, _⟩ := ro
  have ne : a ≠ p := fun z => by subst z; rw [n] at e; cases e
  exact (rs a u e).keep (tups_set h1 (fun _ q => nomatch q) (fun _ _ q => nomatch q)) fun u h => by rw [upd_ne ne]; exact h
theorem dc_imp {vs0 : List Nat} {t : IT} {it : II} {c : IB} {k v : IE} (σ : L2.St) (H : Hp) (Q : VK) (h : liftE w K W (wpE Γ fs (.dc vs0 t it c k v)) σ H Q) :
    tDcX w K (liftI w K W (wpI Γ fs it)) (liftG K vs0 (wpT t)) (liftB w K WN (wpB Γ fs c)) (liftE w K WN (wpE Γ fs k)) (liftE w K WN (wpE Γ fs v)) vs0 σ H Q := by
  obtain ⟨σd, S, E, P, rv, rs, wr, hw, hP⟩ := h
  simp only [wpE] at hw
  refine ⟨σd, S, E, _, rv, rs, wr, hw, fun src S1 J H1 h1 sv rs1 e1 Dd hD hsm => ?_⟩
  have tn0 : Tups H1 (upd H1 Dd (.ext (DictE Dd ([], 0)))) := tups_new hD
  have base : RO w K (upd H1 Dd (.ext (DictE Dd ([], 0)))) Dd (.dct [] ([], 0)) := ⟨upd_same, Nat.zero_le _, hsm, List.nodup_nil, .nil, rfl⟩
  refine ⟨fun i m H' => m = src.items.length - i ∧ i ≤ src.items.length ∧ ∃ S' acc g, RS w K H' S' ∧ RO w K H' Dd (.dct acc g) ∧ S' Dd = none ∧ Ext H1 S1 H' S' ∧
    dcD src.chk (fun x K => wpT t x (TA.wipe σd vs0) K) (fun σ1 S K => wpB Γ fs c noE σ1 S K) (fun σ1 S K => wpE Γ fs k noE σ1 S K) (fun σ1 S K => wpE Γ fs v noE σ1 S K) (src.items.drop i) acc S' fun kvs S2 => freshK S2 kvs P,
    ⟨src.items.length, by simp, Nat.zero_le _, S1, [], ([], 0), rs1.new hD, base, rs1.free hD, ext_new hD, by simpa using h1⟩, ?_⟩
  rintro i m H2 ⟨rfl, hil, S2, acc, gh, rs2, ro2, nD2, e2, hlc⟩
  have tp : Tups H1 H2 := e2.tups rs1
  by_cases hlt : i < src.items.length
  · rw [drop_of_get hlt] at hlc
    simp only [dcD] at hlc
    obtain ⟨hck, hlc⟩ := hlc
    obtain ⟨hgo, hy⟩ := sv.go H2 S2 tp rs2 hck i _ (List.getElem?_eq_getElem hlt)
    refine .inr ⟨hgo, fun H' => ∃ S' acc g, RS w K H' S' ∧ RO w K H' Dd (.dct acc g) ∧ S' Dd = none ∧ Ext H1 S1 H' S' ∧
      dcD src.chk (fun x K => wpT t x (TA.wipe σd vs0) K) (fun σ1 S K => wpB Γ fs c noE σ1 S K) (fun σ1 S K => wpE Γ fs k noE σ1 S K) (fun σ1 S K => wpE Γ fs v noE σ1 S K) (src.items.drop (i + 1)) acc S' fun kvs S2 => freshK S2 kvs P,
      fun H' h => ⟨src.items.length - (i + 1), by omega, rfl, hlt, h⟩, fun x H3 hx => ?_⟩
    obtain ⟨rdx, rs3, e3⟩ := hy x H3 hx
    obtain ⟨ro3, nD3⟩ := ro2.ext rs2 nD2 e3
    have e13 := e2.trans e3
    refine ⟨_, TA.wipe σd vs0, _, rdx, (rv.keep ((e1.trans e13).tups rs)).wipe _, hlc, fun σd' σ' hp rv' hw' => ⟨hw'.trans wipe_wipe, σd', S2, noE, _, rv', rs3, wr_noE, hp, fun b S4 H4 hb rs4 e4 => ?_⟩⟩
    obtain ⟨ro4, nD4⟩ := ro3.ext rs3 nD3 e4
    have e14 := e13.trans e4
    cases b with
    | false =>
      simp only [Bool.false_eq_true, if_false] at hb ⊢
      exact ⟨S4, acc, gh, rs4, ro4, nD4, e14, hb⟩
    | true =>
      simp only [if_true] at hb ⊢
      have rv4 := rv'.keep (e4.tups rs3)
      refine ⟨σd', S4, noE, _, rv4, rs4, wr_noE, hb, fun kd S5 ku H5 h5 rdk rs5 e5 => ?_⟩
      obtain ⟨ro5, nD5⟩ := ro4.ext rs4 nD4 e5
      refine ⟨σd', S5, noE, _, rv4.keep (e5.tups rs4), rs5, wr_noE, h5, fun dd S6 du H6 h6 rdd rs6 e6 => ?_⟩
      obtain ⟨ro6, nD6⟩ := ro5.ext rs5 nD5 e6
      have e16 := (e14.trans e5).trans e6
      refine ⟨acc, gh, kd, dd, ro6, h6.1, rdk.keep (e6.tups rs5), rdd, h6.2.1, fun g2 pr => ?_⟩
      obtain ⟨ro7, t7⟩ := ro6.put h6.1 h6.2.1 pr
      exact ⟨S6, _, g2, rs6.otherD ro6 nD6, ro7, nD6, e16.other hD, h6.2.2⟩
  · have hi' : i = src.items.length := by omega
    subst hi'
    rw [List.drop_length] at hlc
    simp only [dcD] at hlc
    obtain ⟨hck, hlc⟩ := hlc
    exact .inl ⟨sv.stop H2 S2 tp rs2 hck, hP _ _ _ _ (hlc Dd gh nD2) (rd_ref.mpr rfl) (rs2.ownO ro2) (e1.trans (e2.own hD))⟩
theorem dd_dc (hu : X.A.units + 65 < cLine) {kx vx tg iter : Expr} {ifs : List Expr} {scope : Scope} {own : List (Str × Nat)} {pos : Pos} {t : IT} {it : II} {c : IB} {k v : IE} (hc : X.calm = true) (hN : X.N.Nodup) (hi : PI X tg iter (liftI X.w X.K W (wpI Γ fs it))) (ok : BlkOk X.N X.env.scope scope own)
    (hg : inB X scope (fun Y => PG Y tg (liftG X.K (own.map (·.2)) (wpT t)))) (ht : inB X scope (fun Y => PTs Y ifs (liftB X.w X.K WN (wpB Γ fs c)))) (hk : inB X scope (fun Y => PE Y kx (liftE X.w X.K WN (wpE Γ fs k)))) (hv : inB X scope (fun Y => PE Y vx (liftE X.w X.K WN (wpE Γ fs v)))) (hs : ∀ x, foldedSetIterable iter X.env x = pure x) :
    PE X (.DictComp kx vx [⟨tg, iter, ifs, 0⟩] scope pos) (liftE X.w X.K W (wpE Γ fs (.dc (own.map (·.2)) t it c k v))) := by
  refine ⟨fun pins s σ H Q I h => ?_⟩
  rw [arm_eval_DictComp]
  refine dcx_core hu hc hN I hi ok hg ht hk hv hs (dc_imp σ H Q h) fun D C s' m H' I' q hn f => ⟨m, hn, fun h'' sb => ?_⟩
  obtain ⟨f0, f1, f2, f3, f4, f5⟩ := f
  exact ⟨.ref D, H', I'.turned (t' := s'.toks) (fun b o hb e => (sb.2 b hb).trans e) f0 f1 f3 f4 f5, rfl, q⟩
theorem dd_setDc (hu : X.A.units + 65 < cLine) {kx vx tg iter : Expr} {ifs : List Expr} {scope : Scope} {own : List (Str × Nat)} {pos py spos : Pos} {t : IT} {it : II} {c : IB} {k v : IE} {i : Nat} {y : Str} (hc : X.calm = true) (hN : X.N.Nodup) (hy : X.N[i]? = some y) (hyl : X.env.scope.names.lookup y = some .local)
    (hsw : swapsWith (.DictComp kx vx [⟨tg, iter, ifs, 0⟩] scope pos) (some (.Name y py)) spos.line X.env = pure true) (hi : PI X tg iter (liftI X.w X.K W (wpI Γ fs it))) (ok : BlkOk X.N X.env.scope scope own)
    (hg : inB X scope (fun Y => PG Y tg (liftG X.K (own.map (·.2)) (wpT t)))) (ht : inB X scope (fun Y => PTs Y ifs (liftB X.w X.K WN (wpB Γ fs c)))) (hk : inB X scope (fun Y => PE Y kx (liftE X.w X.K WN (wpE Γ fs k)))) (hv : inB X scope (fun Y => PE Y vx (liftE X.w X.K WN (wpE Γ fs v)))) (hs : ∀ x, foldedSetIterable iter X.env x = pure x) :
    PS X (.Assign [.Name y py] (.DictComp kx vx [⟨tg, iter, ifs, 0⟩] scope pos) spos) (liftS X.w X.K W (wpS Γ fs (.asg (.nam i) (.dc (own.map (·.2)) t it c k v)))) := by
  refine s_setLc (te := tDcX X.w X.K (liftI X.w X.K W (wpI Γ fs it)) (liftG X.K (own.map (·.2)) (wpT t)) (liftB X.w X.K WN (wpB Γ fs c)) (liftE X.w X.K WN (wpE Γ fs k)) (liftE X.w X.K WN (wpE Γ fs v)) (own.map (·.2))) ⟨fun pins s σ H D I h => ?_⟩ fun σ H Q h => dc_imp σ H Q h
  rw [exec_Assign_Name_used _ _ _ _ hsw]
  refine wpAny_bind (wpAny_standAt (wpAny_bind ?_))
  show wpAny _ X.A (do let _ ← comprehension (.DictComp kx vx [⟨tg, iter, ifs, 0⟩] scope pos) scope X.env (firstIterPos [⟨tg, iter, ifs, 0⟩] pos) newDict false (eval iter X.env) (some (assign (.Name y py) X.env))) _ _ s
  have h : tDcX X.w X.K (liftI X.w X.K W (wpI Γ fs it)) (liftG X.K (own.map (·.2)) (wpT t)) (liftB X.w X.K WN (wpB Γ fs c)) (liftE X.w X.K WN (wpE Γ fs k)) (liftE X.w X.K WN (wpE Γ fs v)) (own.map (·.2)) σ H (fun x H1 => gName i x σ H1 D.nx) := h
  refine wpAny_bind (thn (dcx_core (Qf := fun _ s' => SP X pins D .next s') hu hc hN I hi ok hg ht hk hv hs h fun L C s' m H' I' q hn f => ?_) fun _ s' hq => wpAny_pure (wpAny_pure hq))
  show wpAny _ _ (assign (.Name y py) X.env (.ref L)) _ _ _
  refine wpAny_assign_Name (store_ok2 (v := V.ref L) I' hN hy (.inl hyl) rfl (fun s2 I2 ⟨a, sb, ha⟩ => ?_) (.inr hyl))
  obtain ⟨f0, f1, f2, f3, f4, f5⟩ := f
  have haC : C ≠ a := by
    rcases ha with z | z
    · rw [z]; exact f1
    · exact fun e => f4 y a z e.symm
  refine ⟨m, hn.sameBut sb haC, fun h3 sb3 => ?_⟩
  exact ⟨_, H', I2.turned (t' := s2.toks) (fun b o hb e => (sb3.2 b hb).trans e) f0 f1 f3 f4 f5, q⟩
end
end TA
set_option Elab.async false
set_option linter.all false
set_option maxRecDepth 100000
set_option maxHeartbeats 2000000
/-! TA14g: displays of one pair, len, list, tuple of dicts, lifted. -/
namespace TA
open PySem PySem.Spec L2
section
variable {X : Cx} {W : WX} {Γ : List DSp} {fs : List (Str × D)}
theorem ta_Dict1 {prog : Program} {w : World} {A : Around} {E : Value → Shared → Prop} {s : Shared} {env : PySem.Env} {k v : Expr} {pos : Pos} {Q : Value → Shared → Prop}
    (h : wpAny (model prog w) A (eval k env) (fun kv s1 => wpAny (model prog w) A (eval v env) (fun vv s2 => wpAny (model prog w) A (dictSet s.heap.objs.size kv vv) (fun _ s3 => Q (.ref s.heap.objs.size) s3) E s2) E s1) E { s with heap := s.heap.push { cls := .type "dict", data := .dict #[] } }) :
    wpAny (model prog w) A (eval (.Dict [some k] [v] pos) env) Q E s := by
  rw [arm_eval_Dict, zip_pairTrees [some k] [v] env pos rfl rfl, dictDisplay_pairs _ (by simp [pairTrees]) (by simp [pairTrees])]
  refine wpAny_bind (wpAny_standAt (wpAny_bind ?_))
  unfold subDict
  refine wpAny_bind (wpAny_alloc ?_)
  refine wpAny_bind (wpAny_holding ?_)
  rw [if_pos (by simp [pairTrees])]
  refine wpAny_bind (pairTrees_cons_walk (wpAny_mono h (fun kv s1 h1 => wpAny_mono h1 (fun vv s2 h2 => pairTrees_nil_walk ?_) fun _ _ e => e) fun _ _ e => e))
  refine wpAny_holding ?_
  rw [List.forIn_cons]
  refine wpAny_bind (wpAny_bind (wpAny_bind (wpAny_mono h2 (fun _ s3 h3 => ?_) fun _ _ e => e)))
  refine wpAny_pure ?_
  show wpAny (model prog w) A (forIn ([] : List (Value × Value)) PUnit.unit _) _ E s3
  rw [List.forIn_nil]
  exact wpAny_pure (wpAny_pure (wpAny_pure (wpAny_pure h3)))
theorem dd_dct1 (hu : X.A.units + 65 < cLine) {k v : Expr} {a b : IE} {pos : Pos} (hk : PE X k (liftE X.w X.K W (wpE Γ fs a))) (hv : PE X v (liftE X.w X.K W (wpE Γ fs b))) : PE X (.Dict [some k] [v] pos) (liftE X.w X.K W (wpE Γ fs (.dct (.cons a .nil) (.cons b .nil)))) := by
  refine ⟨fun pins s σ H Q I ⟨σd, S, E, P, rv, rs, wr, hw, hP⟩ => ta_Dict1 ?_⟩
  simp only [wpE, wpEs] at hw
  have hn := I.hok.fresh (Nat.le_refl s.heap.objs.size)
  obtain ⟨o1, ro⟩ := ro_empty (P := X.prog) (w := X.w) (K := X.K) (H := H) I.big (p := s.heap.objs.size) rfl
  have I1 := I.laid (a := s.heap.objs.size) (o := .ext (DictE s.heap.objs.size ([], 0))) (t' := s.toks) (fun _ _ q => Heap.get?_push_of_some _ q) (Nat.le_refl _) o1
  generalize s.heap.objs.size = p at *
  have n0 : S p = none := rs.free hn
  refine wpAny_mono (hk.run pins _ σ _ (fun kV H2 => ∃ kd S2, RD X.K H2 kd kV ∧ RS X.w X.K H2 S2 ∧ RO X.w X.K H2 p (.dct [] ([], 0)) ∧ S2 p = none ∧ Ext H S H2 S2 ∧ wpE Γ fs b E σd S2 fun d S3 => ([kd].all fun k => keyOk k && (isTupD k || isFlatD k)) = true ∧ freshK S3 (mergeKs [] ([kd].zip [d])) P) I1
    ⟨σd, S, E, _, rv.keep (tups_new hn), rs.new hn, wr.keep (ext_new hn), hw, fun d S' v' H' hd rd rs' e' => ?_⟩) (fun kv s1 hkv => ?_) fun _ _ e => e
  · obtain ⟨r1, n1⟩ := ro.ext (rs.new hn) n0 e'
    exact ⟨d, S', rd, rs', r1, n1, (ext_new hn).trans e', hd⟩
  · obtain ⟨kV, H2, I2, qk, kd, S2, rdk, rs2, ro2, n2, e2, hb⟩ := hkv
    refine wpAny_mono (hv.run pins _ σ _ (fun vV H3 => ∃ d S3, RD X.K H3 d vV ∧ RD X.K H3 kd kV ∧ RS X.w X.K H3 S3 ∧ RO X.w X.K H3 p (.dct [] ([], 0)) ∧ S3 p = none ∧ Ext H S H3 S3 ∧ ([kd].all fun k => keyOk k && (isTupD k || isFlatD k)) = true ∧ freshK S3 (mergeKs [] ([kd].zip [d])) P) I2
      ⟨σd, S2, E, _, rv.keep (e2.tups rs), rs2, wr.keep e2, hb, fun d S' v' H' hd rd rs' e' => ?_⟩) (fun vv s2 hvv => ?_) fun _ _ e => e
    · obtain ⟨r1, n1⟩ := ro2.ext rs2 n2 e'
      exact ⟨d, S', rd, rdk.keep (e'.tups rs2), rs', r1, n1, e2.trans e', hd⟩
    · obtain ⟨vV, H3, I3, qv, d, S3, rdv, rdk3, rs3, ro3, n3, e3, hall, hfr⟩ := hvv
      have fit : fitK kd [] = true := by
        simpa [fitK, allTup, allFlat] using hall
      refine d_dset (by omega) I3 ro3 fit rdk3 qk rdv qv (by decide) fun g2 s' pr I' => ?_
      obtain ⟨ro4, _⟩ := ro3.put fit (by decide) pr
      exact ⟨.ref p, _, I', rfl, hP _ _ _ _ (hfr p g2 n3) (rd_ref.mpr rfl) ((rs3.otherD ro3 n3).ownO ro4) ((e3.other hn).own hn)⟩
end
end TA
set_option Elab.async false
set_option linter.all false
set_option maxRecDepth 100000
set_option maxHeartbeats 2000000
/-! TA14h: a dict's keys walked; items. -/
namespace TA
open PySem PySem.Spec L2
theorem re_keys {w : World} {K : PySem.W.Frag} {H : Hp} : ∀ {kvs : List (D × D)} {es : List DictEntry}, Paired (RE w K H) kvs es → ∃ vs, RDs K H (kvs.map (·.1)) vs ∧ Vals vs (es.map (·.key))
  | _, _, .nil => ⟨[], .nil, .nil⟩
  | _, _, .cons h r => by
    obtain ⟨_, _, _, ⟨kv, r1, r2⟩, _⟩ := h
    obtain ⟨vs, h1, h2⟩ := re_keys r
    exact ⟨kv :: vs, .cons r2 h1, .cons r1 h2⟩
/-- a dict's keys, walked while the dict stands as it did -/
def Itd (a : Addr) (g : Gh) (vs : List V) : It :=
  ⟨fun i H => H a = some (.ext (DictE a g)) ∧ i < vs.length, fun i H x H' => H' = H ∧ vs[i]? = some x, fun i H => H a = some (.ext (DictE a g)) ∧ vs.length ≤ i⟩
theorem turn_dct {P : Program} {w : World} {K : PySem.W.Frag} {tg : Expr} (a it : Addr) (g : Gh) (vs : List V) (hv : Vals vs (g.1.map (·.key))) : Turn P w K tg (Itd a g vs) [it] it (fun i h => h.IsKeyIter it a i g.1.toArray.size g.2) where
  mem := by simp
  obj := fun i h st b hb => by
    have e : b = it := by simpa using hb
    subst e
    obtain ⟨o, e, c, d⟩ := st
    exact ⟨o, e, fun v z => by rw [d] at z; cases z⟩
  keep := fun i h h' st k => st.at fun o e => k it (by simp) o e
  item := by
    intro X hP hw hK hc i pins s σ H E I hf st hg
    subst hP hw hK
    obtain ⟨he, hi⟩ := hg
    have hm : s.heap.DictRaw a g.1.toArray g.2 := dicte_at I.hok he
    obtain ⟨u, hu, ru⟩ := hv.get (List.getElem?_eq_getElem hi)
    obtain ⟨f0, f1, f2, f3, f4, f5⟩ := hf it (by simp)
    have hl := hv.length
    have hi' : i < g.1.toArray.size := by simp at hl ⊢; omega
    refine wpAny_pyNext_keys_item_raw st hm hi' fun h' st' sb => ?_
    have I1 : L2.Inv X pins σ H { s with heap := h' } := I.turned (t' := s.toks) (fun b o hb e => (sb.2 b hb).trans e) f0 f1 f3 f4 f5
    obtain ⟨o, e, c, d⟩ := id st'
    have ek : g.1.toArray[i].key = u := by
      have : (g.1.map (·.key))[i]? = some (g.1.toArray[i].key) := by simp at hi' ⊢; exact ⟨_, List.getElem?_eq_getElem hi', rfl⟩
      rw [this] at hu; injection hu
    exact ⟨_, rfl, go_of (s := { s with heap := h' }) e c d (by decide) ⟨vs[i], H, I1, by rw [ek]; exact ru, ⟨rfl, List.getElem?_eq_getElem hi⟩, st', fun b hb => (hf b hb).1⟩⟩
  done := by
    intro X hP hw hK hc i pins s σ H E I hf st hg
    subst hP hw hK
    obtain ⟨he, hi⟩ := hg
    have hm : s.heap.DictRaw a g.1.toArray g.2 := dicte_at I.hok he
    obtain ⟨f0, f1, f2, f3, f4, f5⟩ := hf it (by simp)
    have hl := hv.length
    exact wpAny_pyNext_keys_end_raw (I.ok.hd hc) st hm (by simp at hl ⊢; omega) fun h' eb => ⟨rfl, I.turned (t' := s.toks) (fun b o hb e => eb b o hb e) f0 f1 f3 f4 f5⟩
  self := fun _ _ _ _ _ st h => wpAny_pyIter_keyiter st h
theorem dd_it {X : Cx} : DctIter X := by
  intro tg a pins s σ H S kvs g R I rs eS q
  obtain ⟨hl, hs, hn, ⟨he, pe⟩, _⟩ := dct_view I rs eS
  obtain ⟨vs, h1, h2⟩ := re_keys pe
  have hm : s.heap.DictRaw a g.1.toArray g.2 := dicte_at I.hok he
  refine wpAny_pyIter_dict_raw hs hm ?_
  refine ⟨s.heap.objs.size, [s.heap.objs.size], _, _, H, rfl, I.kept (t' := s.toks) fun b o e => Heap.get?_push_of_some _ e, turn_dct a _ g vs h2, ⟨_, Heap.get?_push_size _ rfl, rfl, rfl⟩, fun b hb => ?_, q _ ?_⟩
  · have e : b = s.heap.objs.size := by simpa using hb
    subst e
    exact I.fpOk (Nat.le_refl _) (I.hok.fresh (Nat.le_refl _))
  · have hvl := h1.length
    refine ⟨by simpa using hl, fun H' S' t rs' c i d e => ?_, fun H' S' t rs' c => ?_⟩
    · obtain ⟨he', _⟩ := rs' a _ c
      obtain ⟨v, ev, rv⟩ := h1.get e
      refine ⟨⟨he', (List.getElem?_eq_some_iff.mp ev).1⟩, fun x H2 ⟨e1, e2⟩ => ?_⟩
      subst e1
      rw [ev] at e2; cases e2
      exact ⟨rv.keep t, rs', .refl⟩
    · obtain ⟨he', _⟩ := rs' a _ c
      exact ⟨he', by rw [← hvl]; exact Nat.le_refl _⟩
end TA
set_option Elab.async false
set_option linter.all false
set_option maxRecDepth 100000
set_option maxHeartbeats 2000000
/-! TA14i: len, list of a dict. -/
namespace TA
open PySem PySem.Spec L2
section
variable {P : Program} {w : World} {K : PySem.W.Frag} {H : Hp} {h' : Heap} {p : Addr} {kvs : List (D × D)}
theorem dn_tup {xs : List (NestedKey × Addr × Value)} (m : h'.DictOfH (nestedKind P w) p xs) (px : Paired (RT K H) kvs xs) : ∃ g : Gh, DictE p g h' ∧ Paired (RE w K H) kvs g.1 := by
  obtain ⟨o2, es2, ep2, ho2, hx2, hd2, hes2, _⟩ := m
  exact ⟨(_, ep2), ⟨o2, ho2, hx2, by rw [hd2, ← hes2, Array.toArray_toList]⟩, re_of px⟩
theorem dn_flat {vs : List (Key × Value)} (m : h'.DictOf (mixKind P w) p vs) (px : Paired (RF K H) kvs vs) : ∃ g : Gh, DictE p g h' ∧ Paired (RE w K H) kvs g.1 := by
  obtain ⟨o2, es2, ep2, ho2, hx2, hd2, hks, hps, _⟩ := m
  exact ⟨(es2.toList, ep2), ⟨o2, ho2, hx2, by rw [hd2, Array.toArray_toList]⟩, rf_back hps px fun e he => hks e (by simpa using he)⟩
end
section
variable {X : Cx}
theorem dct_sort {w : World} {K : PySem.W.Frag} {H : Hp} {a : Addr} {kvs : List (D × D)} {g : Gh} (ro : RO w K H a (.dct kvs g)) : allTup kvs = true ∨ allFlat kvs = true := by
  obtain ⟨_, _, _, _, _, h⟩ := ro
  simpa using h
theorem dd_len : DctCall X (.builtin "len") fun kvs S Q => Q (.int kvs.length) S := by
  intro pins s σ H xs us Q I r ⟨ds, S, P, rds, rs, ⟨a, kvs, gh, e, eS, hq⟩, hP⟩
  subst e
  obtain ⟨v, rfl, rd⟩ := one_args rds
  rw [rd_ref] at rd; subst rd
  obtain ⟨u, rfl, rx⟩ := vals1 r
  cases rx
  obtain ⟨hl, hs, hn, _, vt, vf⟩ := dct_view I rs eS
  have hn := line63
  have fin : ∀ t s', L2.Inv X pins σ H s' → EP X pins σ Q (.int kvs.length t) s' := fun t s' I' => ⟨.int kvs.length, H, I', ⟨t, rfl⟩, hP _ _ _ _ hq (rd_int.mpr rfl) rs .refl⟩
  rcases dct_sort (rs a _ eS) with t | t
  · obtain ⟨ys, hm, px⟩ := vt t
    have := Paired.length px
    refine call_len_dictH hs hm (by omega) ?_
    rw [← this]; exact fin _ _ (I.tok _)
  · obtain ⟨ys, hm, px⟩ := vf t
    have := Paired.length px
    refine call_len_dict hs hm (by omega) ?_
    rw [← this]; exact fin _ _ (I.tok _)
theorem vals_of : ∀ {vs : List V} {us its : List Value}, Vals vs us → its.length = us.length → (∀ (j : Nat) (v : Value), its[j]? = some v → us[j]? = some v) → Vals vs its := by
  intro vs us its h hl hj
  have : its = us := by
    apply List.ext_getElem? 
    intro j
    cases q : its[j]? with
    | some v => exact (hj j v q).symm
    | none =>
      have : us.length ≤ j := by rw [← hl]; exact List.getElem?_eq_none_iff.mp q
      exact (List.getElem?_eq_none_iff.mpr this).symm
  rw [this]; exact h
theorem dd_list (hc : X.calm = true) : DctCall X (.type "list") fun kvs S Q => fresh S (.lst (kvs.map (·.1))) Q := by
  intro pins s σ H xs us Q I r ⟨ds, S, P, rds, rs, ⟨a, kvs, gh, e, eS, hq⟩, hP⟩
  subst e
  obtain ⟨v, rfl, rd⟩ := one_args rds
  rw [rd_ref] at rd; subst rd
  obtain ⟨u, rfl, rx⟩ := vals1 r
  cases rx
  obtain ⟨hl, hs, hn, ⟨he, pe⟩, _⟩ := dct_view I rs eS
  obtain ⟨vs, h1, h2⟩ := re_keys pe
  have hm : s.heap.DictRaw a gh.1.toArray gh.2 := dicte_at I.hok he
  have hvl := h1.length
  have hlen := h2.length
  have hle : kvs.length = gh.1.length := Paired.length pe
  refine PySem.W.kdl_call (KdlSrc.rawDict hs) (I.ok.hd hc) hm (by simp; omega) fun h' tk acc' c' kp e hi => ?_
  have hv : Vals vs acc'.toList := by
    refine vals_of h2 ?_ fun j v ev => ?_
    · have := hi.1; simpa using this
    · obtain ⟨hj, e3⟩ := hi.2 j v (by simpa using ev)
      subst e3
      simp at hj ⊢
      exact ⟨_, List.getElem?_eq_getElem hj, rfl⟩
  have hq' := I.hok.fresh (Nat.le_refl s.heap.objs.size)
  exact ⟨.ref s.heap.objs.size, _, I.laid (t' := tk) kp (Nat.le_refl _) (show ObjOk X.prog X.w _ h' _ (.lst vs) from ⟨by simp at hvl; omega, acc'.toList, c', hv, by rw [e, Array.toArray_toList]⟩), rfl,
    hP _ _ _ _ (hq _ (rs.free hq')) (rd_ref.mpr rfl) (rs.lay hq' ⟨_, upd_same, h1.keep (tups_new hq')⟩) (ext_lay hq')⟩
end
end TA
set_option Elab.async false
set_option linter.all false
set_option maxRecDepth 100000
set_option maxHeartbeats 2000000
/-! TA14j: dict(list of pairs). -/
namespace TA
open PySem PySem.Spec L2
section
variable {w : World} {K : PySem.W.Frag} {H : Hp} {X : Cx}
/-- a pair of the model, read -/
def RP (K : PySem.W.Frag) (H : Hp) (p : D × D) (q : Value × Value) : Prop := ∃ kV vV, RD K H p.1 kV ∧ RelV kV q.1 ∧ RD K H p.2 vV ∧ RelV vV q.2
theorem pairs_get : ∀ {xs : List D} {vs : List V} {kvs : List (D × D)}, RDs K H xs vs → pairs xs = some kvs → ∃ ps : List Addr, vs = ps.map V.ref ∧ Paired (fun (b : Addr) (kv : D × D) => ∃ kV vV, SqT K H b [kV, vV] ∧ RD K H kv.1 kV ∧ RD K H kv.2 vV) ps kvs
  | [], vs, kvs, h, e => by
    simp only [RDs] at h; subst h
    simp only [pairs, Option.some.injEq] at e; subst e
    exact ⟨[], rfl, .nil⟩
  | x :: r, vs, kvs, h, e => by
    obtain ⟨v, us, rfl, h1, h2⟩ := h.uncons
    unfold pairs at e
    split at e
    · rename_i q; cases q
    · rename_i k d r' q
      cases q
      cases hr : pairs r with
      | none => rw [hr] at e; cases e
      | some kvs' =>
        rw [hr] at e
        cases e
        obtain ⟨ps, rfl, hp⟩ := pairs_get h2 hr
        obtain ⟨b, ws, rfl, hs, rw_⟩ := rd_tup.mp h1
        obtain ⟨kV, us, rfl, hk, hu⟩ := rw_.uncons
        obtain ⟨vV, rfl, hv⟩ := one_args hu
        exact ⟨b :: ps, rfl, .cons ⟨kV, vV, hs, hk, hv⟩ hp⟩
    · cases e
theorem pairs_heap {pins : List (Addr × Obj)} {σ : L2.St} {s : Shared} (I : L2.Inv X pins σ H s) : ∀ {ps : List Addr} {kvs : List (D × D)}, Paired (fun (b : Addr) (kv : D × D) => ∃ kV vV, SqT X.K H b [kV, vV] ∧ RD X.K H kv.1 kV ∧ RD X.K H kv.2 vV) ps kvs →
    ∃ prs : List (Value × Value), Paired (RP X.K H) kvs prs ∧ prs.length = ps.length ∧ ∀ (j : Nat) (k v : Value), prs[j]? = some (k, v) → ∃ b, ps[j]? = some b ∧ PyProof.Rows.IsTup s.heap b #[k, v]
  | _, _, .nil => ⟨[], .nil, rfl, fun j k v e => by simp at e⟩
  | _, _, .cons (a := b) h t => by
    obtain ⟨prs, pp, hl, hj⟩ := pairs_heap I t
    obtain ⟨kV, vV, hs, hk, hv⟩ := h
    obtain ⟨its, rv, ht, _⟩ := I.tuple hs
    obtain ⟨u, y, rfl, ru, ry⟩ := vals2 rv
    refine ⟨(u, y) :: prs, .cons ⟨kV, vV, hk, ru, hv, ry⟩ pp, by simp [hl], fun j k v e => ?_⟩
    cases j with
    | zero => simp at e; obtain ⟨rfl, rfl⟩ := e; exact ⟨b, rfl, ht⟩
    | succ j => simp at e; obtain ⟨c, e1, e2⟩ := hj j k v e; exact ⟨c, by simpa using e1, e2⟩
theorem rp_tup : ∀ {kvs : List (D × D)} {prs : List (Value × Value)}, Paired (RP K H) kvs prs → (kvs.all fun p => keyOk p.1) = true → allTup kvs = true → ∃ xs, Paired (RT K H) kvs xs ∧ xs.length = prs.length ∧ ∀ (j : Nat) (k v : Value), prs[j]? = some (k, v) → ∃ n b, xs[j]? = some (n, b, v) ∧ k = .ref b
  | _, _, .nil, _, _ => ⟨[], .nil, rfl, fun j k v e => by simp at e⟩
  | p :: r, q :: prs, .cons h t, a, b => by
    simp only [allTup, List.all_cons, Bool.and_eq_true] at a b
    obtain ⟨xs, px, hl, hj⟩ := rp_tup t a.2 b.2
    obtain ⟨kV, vV, hk, rk, hv, rv⟩ := h
    obtain ⟨c, rfl, ec⟩ := tup_ref b.1 hk rk
    obtain ⟨q1, q2⟩ := q
    dsimp only at ec; subst ec
    refine ⟨(nk p.1, c, q2) :: xs, .cons ⟨a.1, b.1, rfl, hk, vV, rv, hv⟩ px, by simp [hl], fun j k v e => ?_⟩
    cases j with
    | zero => simp at e; obtain ⟨rfl, rfl⟩ := e; exact ⟨_, c, rfl, rfl⟩
    | succ j => simp at e; simpa using hj j k v e
theorem rp_flat {P : Program} {w : World} : ∀ {kvs : List (D × D)} {prs : List (Value × Value)}, Paired (RP K H) kvs prs → allFlat kvs = true → ∃ vs, Paired (RF K H) kvs vs ∧ vs.length = prs.length ∧ ∀ (j : Nat) (q : Key × Value), vs[j]? = some q → ∃ u, prs[j]? = some (u, q.2) ∧ (mixKind P w).is q.1 u = true
  | _, _, .nil, _ => ⟨[], .nil, rfl, fun j q e => by simp at e⟩
  | p :: r, q :: prs, .cons h t, b => by
    simp only [allFlat, List.all_cons, Bool.and_eq_true] at b
    obtain ⟨vs, px, hl, hj⟩ := rp_flat (P := P) (w := w) t b.2
    obtain ⟨kV, vV, hk, rk, hv, rv⟩ := h
    obtain ⟨p1, p2⟩ := p
    obtain ⟨kk, e⟩ := flat_key b.1
    dsimp only at e; subst e
    obtain ⟨q1, q2⟩ := q
    refine ⟨(kk, q2) :: vs, .cons ⟨rfl, vV, rv, hv⟩ px, by simp [hl], fun j q e => ?_⟩
    cases j with
    | zero => simp at e; subst e; exact ⟨q1, rfl, (kD_is hk rk).1⟩
    | succ j => simp at e; simpa using hj j q e
theorem merge_tup : ∀ {more : List (D × D)} {ys : List (NestedKey × Addr × Value)} {kvs : List (D × D)} {xs : List (NestedKey × Addr × Value)}, Paired (RT K H) more ys → Paired (RT K H) kvs xs → (kvs.map fun p => nk p.1).Nodup → Paired (RT K H) (mergeKs kvs more) (storedAllH xs ys)
  | _, _, _, _, .nil, h, _ => h
  | _, _, kvs, xs, .cons (a := p) (b := y) h t, h0, nd => by
    obtain ⟨h1, h2, h3, h4, vv, h5, h6⟩ := h
    show Paired (RT K H) (mergeKs (putK p.1 p.2 kvs) _) (storedAllH (storedH xs y.1 y.2.1 y.2.2) _)
    rw [h3]
    exact merge_tup t (rt_put h1 h2 h4 h5 h6 h0 nd) (putK_nodup _ _ nd)
theorem rf_nodup {kvs : List (D × D)} {vs : List (Key × Value)} (h : Paired (RF K H) kvs vs) (nd : (kvs.map fun p => nk p.1).Nodup) : (vs.map (·.1)).Nodup := by
  rw [rf_keys h] at nd
  exact List.Pairwise.of_map (fun k => nk (kD k)) (fun _ _ hne e => hne (by rw [e])) nd
theorem merge_flat : ∀ {more : List (D × D)} {ys : List (Key × Value)} {kvs : List (D × D)} {xs : List (Key × Value)}, Paired (RF K H) more ys → Paired (RF K H) kvs xs → (kvs.map fun p => nk p.1).Nodup → Paired (RF K H) (mergeKs kvs more) (merged xs ys)
  | _, _, _, _, .nil, h, _ => h
  | _, _, kvs, xs, .cons (a := p) (b := y) h t, h0, nd => by
    obtain ⟨h1, vv, h5, h6⟩ := h
    show Paired (RF K H) (mergeKs (putK p.1 p.2 kvs) _) (merged (stored xs y.1 y.2) _)
    rw [h1]
    exact merge_flat t (rf_put h5 h6 h0 (rf_nodup h0 nd)) (putK_nodup _ _ nd)
theorem merge_nodup : ∀ (more : List (D × D)) {kvs : List (D × D)}, (kvs.map fun p => nk p.1).Nodup → ((mergeKs kvs more).map fun p => nk p.1).Nodup
  | [], _, h => h
  | p :: r, kvs, h => merge_nodup r (kvs := putK p.1 p.2 kvs) (putK_nodup _ _ h)
theorem merge_len : ∀ (more : List (D × D)) (kvs : List (D × D)), (mergeKs kvs more).length ≤ kvs.length + more.length
  | [], kvs => by simp [mergeKs]
  | p :: r, kvs => by
    have h1 := merge_len r (putK p.1 p.2 kvs)
    have h2 := putK_len p.1 p.2 kvs
    show (mergeKs (putK p.1 p.2 kvs) r).length ≤ _
    simp only [List.length_cons]; omega
theorem merge_all {f : D → Bool} : ∀ {more : List (D × D)} {kvs : List (D × D)}, (more.all fun p => f p.1) = true → (kvs.all fun p => f p.1) = true → ((mergeKs kvs more).all fun p => f p.1) = true
  | [], _, _, h => h
  | p :: r, kvs, a, h => by
    simp only [List.all_cons, Bool.and_eq_true] at a
    exact merge_all (kvs := putK p.1 p.2 kvs) a.2 (putK_all _ _ a.1 h)
theorem rt_is {pins : List (Addr × Obj)} {σ : L2.St} {s : Shared} (I : L2.Inv X pins σ H s) : ∀ {kvs : List (D × D)} {xs : List (NestedKey × Addr × Value)}, Paired (RT X.K H) kvs xs → ∀ x ∈ xs, (nestedKind X.prog X.w).is s.heap x.1 x.2.1
  | _, _, .nil, x, hx => nomatch hx
  | _, _, .cons h t, x, hx => by
    rcases List.mem_cons.mp hx with e | hx
    · subst e
      obtain ⟨h1, h2, h3, h4, _⟩ := h
      unfold keyOk at h1
      simp only [Bool.and_eq_true, decide_eq_true_eq] at h1
      rw [h3]
      exact ⟨nis I _ _ _ h4 h1.1 rfl, h1.2⟩
    · exact rt_is I t x hx
theorem base_ok {h : Heap} (I : sysModules < h.objs.size) : (h.objs.size == sysModules) = false := beq_eq_false_iff_ne.mpr (Nat.ne_of_gt I)
/-- a new dict of the store -/
theorem new_dct {pins : List (Addr × Obj)} {σ : L2.St} {s : Shared} {S : Sto} {h' : Heap} {tk : Nat} {kvs : List (D × D)} {g : Gh} (I : L2.Inv X pins σ H s) (rs : RS X.w X.K H S) (kp : ∀ b o, s.heap.get? b = some o → h'.get? b = some o) (de : DictE s.heap.objs.size g h')
    (hl : kvs.length ≤ sizeLine) (nd : (kvs.map fun p => nk p.1).Nodup) (pr : Paired (RE X.w X.K H) kvs g.1) (hf : (allTup kvs || allFlat kvs) = true) {Q : VK} {P : DK} (hq : freshK S kvs P) (hP : ∀ d S' v H', P d S' → RD X.K H' d v → RS X.w X.K H' S' → Ext H S H' S' → Q v H') :
    EP X pins σ Q (.ref s.heap.objs.size) { s with heap := h', toks := tk } := by
  have hn := I.hok.fresh (Nat.le_refl s.heap.objs.size)
  exact ⟨.ref s.heap.objs.size, _, I.laid (t' := tk) kp (Nat.le_refl _) (dicte_ok de), rfl, hP _ _ _ _ (hq _ g (rs.free hn)) (rd_ref.mpr rfl)
    (rs.lay hn ⟨upd_same, hl, base_ok I.big, nd, Paired.mapP pr fun _ _ r => r.keep (tups_new hn), hf⟩) (ext_lay hn)⟩
theorem dd_dict (hu : X.A.units + 65 < cLine) (hc : X.calm = true) : CallR X (.type "dict") (liftCall X .dict) := by
  intro pins s σ H xs us Q I r ⟨ds, S, P, rds, rs, hf, hP⟩
  obtain ⟨x, v, rfl, rfl, rd, hf⟩ := one_rd hf rds
  obtain ⟨u, rfl, rx⟩ := vals1 r
  cases x with
  | ref a =>
    rw [rd_ref] at rd; subst rd
    cases rx
    simp only [refL] at hf
    split at hf
    · rename_i ys eS
      obtain ⟨kvs, hp, hk, hs, hq⟩ := hf
      obtain ⟨vs, h1, r1⟩ := rs a _ eS
      obtain ⟨ps, rfl, pp⟩ := pairs_get r1 hp
      obtain ⟨prs, pr, hl, hj⟩ := pairs_heap I pp
      obtain ⟨its, rv, pl, hz⟩ := I.list (.of h1)
      have ei := refs_at rv
      subst ei
      rw [List.length_map] at hz
      have hpl : kvs.length = prs.length := Paired.length pr
      have hml : (mergeKs [] kvs).length ≤ sizeLine := by have := merge_len kvs []; simp at this; omega
      have hnd : ((mergeKs [] kvs).map fun p => nk p.1).Nodup := merge_nodup kvs .nil
      cases t : allTup kvs with
      | true =>
        obtain ⟨xs, px, hxl, hxj⟩ := rp_tup pr hk t
        refine call_dict_pairsH (knd := nestedKind X.prog X.w) (wr := []) (PairArg.list a (ps.map Value.ref).toArray (fun j => ps.getD j 0) prs) (I.ok.hd hc) (show X.A.units + 1 + 1 + 8 < cLine by omega) ⟨pl, by simp [hl], fun j k v e => ?_⟩ (ps := xs) ⟨hxl, fun i k v e => hxj i k v e⟩ (fun h' hk' x hx => ?_) (by omega) fun h' tk m kp => ?_
        · obtain ⟨b, e1, e2⟩ := hj j k v e
          have e3 : ps.getD j 0 = b := by simp [List.getD, e1]
          refine ⟨by simp [List.getElem?_map, e1, List.getD], .inl ?_⟩
          show s.heap.IsTuple (ps.getD j 0) _
          rw [e3]; exact e2
        · have := rt_is I px x hx
          exact (nestedKind_stays (prog := X.prog) (w := X.w)).stays (fun b o vs n e _ => hk' b o (Nat.ne_of_lt (Heap.lt_size e)) (by simp) e) this
        · obtain ⟨g, de, pe⟩ := dn_tup m (merge_tup px .nil .nil)
          exact new_dct I rs (fun b o e => kp b o (by simp) e) de hml hnd pe (by simp only [Bool.or_eq_true]; exact .inl (merge_all t rfl)) hq hP
      | false =>
        have af : allFlat kvs = true := by simpa [t] using hs
        obtain ⟨xs, px, hxl, hxj⟩ := rp_flat (P := X.prog) (w := X.w) pr af
        obtain ⟨o, n, ho, hc', hd, hdat⟩ := pl
        refine call_dict_pairs (prs := xs) (I.ok.hd hc) ho hc' hd hdat (by simp; omega) (by omega) (fun j q' e => ?_) fun h' tk m kp => ?_
        · obtain ⟨u, e1, e2⟩ := hxj j q' e
          obtain ⟨b, e3, e4⟩ := hj j u q'.2 e1
          exact ⟨b, u, by simp [List.getElem?_map, e3], e4, e2⟩
        · obtain ⟨g, de, pe⟩ := dn_flat m (merge_flat px .nil .nil)
          exact new_dct I rs kp de hml hnd pe (by simp only [Bool.or_eq_true]; exact .inr (merge_all af rfl)) hq hP
    · exact hf.elim
  | _ => exact hf.elim
end
end TA
set_option Elab.async false
set_option linter.all false
set_option maxRecDepth 100000
set_option maxHeartbeats 2000000
/-! TA14k: get, update. -/
namespace TA
open PySem PySem.Spec L2
section
variable {X : Cx} {pins : List (Addr × Obj)} {σ : L2.St} {H : Hp} {s : Shared} {S : Sto} {a : Addr} {kvs : List (D × D)} {g : Gh} {k d : D} {kV vV : V} {ku u : Value} {E : Value → Shared → Prop}
/-- d.get(k, ..): what is found, or the value instead -/
theorem d_getM (hu : X.A.units + 64 < cLine) (I : L2.Inv X pins σ H s) (rs : RS X.w X.K H S) (e : S a = some (.dct kvs g)) (fit : fitK k kvs = true) (rk : RD X.K H k kV) (q : RelV kV ku) {more : List Value} {df : D} {dV : V} {dv : Value} (rdf : RD X.K H df dV) (qd : RelV dV dv)
    (hm : (more = [] ∧ dv = .none) ∨ more = [dv]) {Q : Value → Shared → Prop} (h : ∀ v vv s', L2.Inv X pins σ H s' → RelV vv v → RD X.K H ((keyD k kvs).getD df) vv → Q v s') : wpAny (model X.prog X.w) X.A (call (.builtin "dict.get") (.ref a :: ku :: more)) Q E s := by
  obtain ⟨_, hs, _, _, vt, vf⟩ := dct_view I rs e
  cases t : isTupD k with
  | true =>
    obtain ⟨_, _, at_⟩ := fit_tup fit t
    obtain ⟨xs, m, px⟩ := vt at_
    obtain ⟨b, rfl, rfl⟩ := tup_ref t rk q
    have room : (nestedKind X.prog X.w).room X.A.in1 := show X.A.units + 1 + 8 < cLine by omega
    have key : ∃ vv, RelV vv (((atKey xs (nk k)).map (·.2)).getD dv) ∧ RD X.K H ((keyD k kvs).getD df) vv := by
      have := rt_at (k := k) px
      cases hk : keyD k kvs with
      | some d => rw [hk] at this; obtain ⟨p, vv, h1, h2, h3⟩ := this; rw [h1]; exact ⟨vv, h2, h3⟩
      | none => rw [hk] at this; rw [this]; exact ⟨dV, qd, rdf⟩
    obtain ⟨vv, k1, k2⟩ := key
    rcases hm with ⟨rfl, rfl⟩ | rfl
    · exact call_meetsIn PySem.F.slot_dict_get m.typeIs PySem.F.entry_dict_get (PySem.F.args_dict_get_2 _ _) (meetsH_dict_get _ a b hs) ⟨room, nk k, xs, tup_is I fit t rk, m, h _ vv _ (I.tok _) k1 k2⟩
    · exact call_meetsIn PySem.F.slot_dict_get m.typeIs PySem.F.entry_dict_get (PySem.F.args_dict_get_3 _ _ _) (meetsH_dict_get_default _ a b hs dv) ⟨room, nk k, xs, tup_is I fit t rk, m, h _ vv _ (I.tok _) k1 k2⟩
  | false =>
    obtain ⟨_, fk, af⟩ := fit_flat fit t
    obtain ⟨vs, m, px⟩ := vf af
    obtain ⟨kk, rfl⟩ := flat_key fk
    have key : ∃ vv, RelV vv ((valueAt vs kk).getD dv) ∧ RD X.K H ((keyD (kD kk) kvs).getD df) vv := by
      have := rf_at (k := kk) px
      cases hk : keyD (kD kk) kvs with
      | some d => rw [hk] at this; obtain ⟨p, vv, h1, h2, h3⟩ := this; rw [h1]; exact ⟨vv, h2, h3⟩
      | none => rw [hk] at this; rw [this]; exact ⟨dV, qd, rdf⟩
    obtain ⟨vv, k1, k2⟩ := key
    rcases hm with ⟨rfl, rfl⟩ | rfl
    · exact call_meetsIn PySem.F.slot_dict_get m.typeIs PySem.F.entry_dict_get (PySem.F.args_dict_get_2 _ _) (meets_dict_get _ a (kD_is rk q).1 hs) ⟨_, m.mapOf, h _ vv _ (I.tok _) k1 k2⟩
    · exact call_meetsIn PySem.F.slot_dict_get m.typeIs PySem.F.entry_dict_get (PySem.F.args_dict_get_3 _ _ _) (meets_dict_get_default _ a (kD_is rk q).1 hs dv) ⟨_, m.mapOf, h _ vv _ (I.tok _) k1 k2⟩
end
section
variable {X : Cx}
theorem atK_rd {S : Sto} {a : Addr} {f : List (D × D) → Prop} (h : atK S a f) : ∃ kvs g, S a = some (.dct kvs g) ∧ f kvs := by
  unfold atK at h
  split at h
  · rename_i kvs g e; exact ⟨kvs, g, e, h⟩
  · exact h.elim
theorem m_get1 (hu : X.A.units + 65 < cLine) : MtR X "dict.get" (liftM X.w X.K (mtD .get1)) := fun pins s σ H x xs v us Q I rx rxs ⟨a, ds, S, P, ra, rds, rs, hf, hP⟩ => by
  obtain ⟨b, rfl, rfl, hf⟩ := addr_rd hf ra
  obtain ⟨y, u, rfl, rfl, ru, hf⟩ := one_rd hf rds
  obtain ⟨kvs, g, e, fit, hf⟩ := atK_rd hf
  obtain ⟨ku, rfl, q⟩ := vals1 rxs
  cases rx
  exact d_getM (by omega) I rs e fit ru q (df := .non) (dV := .non) (dv := .none) (rd_non.mpr rfl) rfl (.inl ⟨rfl, rfl⟩) fun w vv s' I' q' rd => ⟨vv, H, I', q', hP _ _ _ _ hf rd rs .refl⟩
theorem m_get2 (hu : X.A.units + 65 < cLine) : MtR X "dict.get" (liftM X.w X.K (mtD .get2)) := fun pins s σ H x xs v us Q I rx rxs ⟨a, ds, S, P, ra, rds, rs, hf, hP⟩ => by
  obtain ⟨b, rfl, rfl, hf⟩ := addr_rd hf ra
  unfold two at hf
  split at hf
  · obtain ⟨u1, u2, rfl, r1, r2⟩ := two_args rds
    obtain ⟨kvs, g, e, fit, hf⟩ := atK_rd hf
    obtain ⟨ku, du, rfl, q1, q2⟩ := vals2 rxs
    cases rx
    exact d_getM (by omega) I rs e fit r1 q1 r2 q2 (.inr rfl) fun w vv s' I' q' rd => ⟨vv, H, I', q', hP _ _ _ _ hf rd rs .refl⟩
  · exact hf.elim
theorem m_upd (hu : X.A.units + 65 < cLine) : MtR X "dict.update" (liftM X.w X.K (mtD .update)) := fun pins s σ H x xs v us Q I rx rxs ⟨a, ds, S, P, ra, rds, rs, hf, hP⟩ => by
  obtain ⟨c, rfl, rfl, hf⟩ := addr_rd hf ra
  obtain ⟨y, u, rfl, rfl, ru, hf⟩ := one_rd hf rds
  obtain ⟨b, rfl, rfl, hf⟩ := addr_rd hf ru
  obtain ⟨k1, g1, e1, hf⟩ := atK_rd hf
  obtain ⟨k2, g2, e2, hab, hne, hz, hso, hq⟩ := atK_rd hf
  obtain ⟨ku, rfl, q⟩ := vals1 rxs
  cases rx; cases q
  obtain ⟨hl, hs, hn, ⟨he, pe⟩, vt, vf⟩ := dct_view I rs e1
  obtain ⟨hl2, hs2, hn2, ⟨he2, pe2⟩, vt2, vf2⟩ := dct_view I rs e2
  have ml : (mergeKs k1 k2).length ≤ sizeLine := Nat.le_trans (merge_len k2 k1) hz
  have fin : ∀ (g : Gh) (h' : Heap), DictE c g h' → Paired (RE X.w X.K H) (mergeKs k1 k2) g.1 → Heap.SameBut c s.heap h' → (allTup (mergeKs k1 k2) || allFlat (mergeKs k1 k2)) = true → EP X pins σ Q .none { s with heap := h' } := fun g h' de pr sb hso => by
    obtain ⟨r1, r2⟩ := rs.dct (g2 := g) e1 he hs pr ml (merge_nodup k2 hn) hso
    exact ⟨.non, _, d_wrote (tk := s.toks) I he de sb, rfl, hP _ _ _ _ (hq g) (rd_non.mpr rfl) r1 r2⟩
  simp only [Bool.or_eq_true, Bool.and_eq_true] at hso
  rcases hso with ⟨t1, t2⟩ | ⟨t1, t2⟩
  · obtain ⟨xs, m1, p1⟩ := vt t1
    obtain ⟨ys, m2, p2⟩ := vt2 t2
    have hx : xs ≠ [] := fun e => by subst e; cases p1; exact hne rfl
    have l1 := Paired.length p1
    have l2 := Paired.length p2
    refine call_update_dictH (knd := nestedKind X.prog X.w) (show X.A.units + 1 + 8 < cLine by omega) hab hs2 m1 m2 (.inl hx) (by rw [← l1, ← l2]; exact hz) fun h' hd' _ sb => ?_
    obtain ⟨g, de, pr⟩ := dn_tup hd' (merge_tup p2 p1 hn)
    exact fin g h' de pr sb (by simp only [Bool.or_eq_true]; exact .inl (merge_all t2 t1))
  · obtain ⟨xs, m1, p1⟩ := vf t1
    obtain ⟨ys, m2, p2⟩ := vf2 t2
    have l1 := Paired.length p1
    have l2 := Paired.length p2
    refine call_meetsIn PySem.F.slot_dict_update m1.typeIs PySem.F.entry_dict_update (PySem.F.args_dict_update_2 _ _) (meets_dict_update (mixKind X.prog X.w) c b hab hs2) ⟨xs, ys, m1, m2, by rw [← l1, ← l2]; exact hz, fun h' hd' _ sb => ?_⟩
    obtain ⟨g, de, pr⟩ := dn_flat hd' (merge_flat p2 p1 hn)
    exact fin g h' de pr sb (by simp only [Bool.or_eq_true]; exact .inr (merge_all t2 t1))
end
end TA
set_option Elab.async false
set_option linter.all false
set_option maxRecDepth 100000
set_option maxHeartbeats 2000000
/-! TA14l: methods of dicts; items. -/
namespace TA
open PySem PySem.Spec L2
theorem tyR_dict {X : Cx} : TyR X "dict" (fun x H => ∃ a g, x = .ref a ∧ H a = some (.ext (DictE a g))) := fun pins σ H s x v I r ⟨a, g, e, h⟩ => by
  subst e
  cases r
  obtain ⟨o, ho, hx, hd⟩ := dicte_at I.hok h
  exact ⟨⟨o, ho, hx.1⟩, fun b e => by cases e; exact ⟨o, ho, hx.2.1⟩⟩
theorem recv_dct {m : Me} (hm : m ∈ [Me.update, .get1, .get2]) {w : World} {K : PySem.W.Frag} {H : Hp} {S : Sto} {d : D} {v : V} (rs : RS w K H S) (r : RD K H d v) (h : recvD m d S) : ∃ a g, v = .ref a ∧ H a = some (.ext (DictE a g)) := by
  have h' : refK S d fun _ => True := by
    simp only [List.mem_cons, List.not_mem_nil, or_false] at hm
    rcases hm with rfl | rfl | rfl <;> exact h
  unfold refK at h'
  split at h'
  · rw [rd_ref] at r
    split at h'
    · rename_i e
      obtain ⟨h1, _⟩ := rs _ _ e
      exact ⟨_, _, r, h1⟩
    · exact h'.elim
  · exact h'.elim
theorem re_items {w : World} {K : PySem.W.Frag} {H : Hp} : ∀ {kvs : List (D × D)} {es : List DictEntry}, Paired (RE w K H) kvs es → ∃ vs us, RDs K H (kvs.map (·.1)) vs ∧ Vals vs (es.map (·.key)) ∧ RDs K H (kvs.map (·.2)) us ∧ Vals us (es.map (·.val))
  | _, _, .nil => ⟨[], [], .nil, .nil, .nil, .nil⟩
  | _, _, .cons h r => by
    obtain ⟨_, _, _, ⟨kv, r1, r2⟩, vv, r3, r4⟩ := h
    obtain ⟨vs, us, h1, h2, h3, h4⟩ := re_items r
    exact ⟨kv :: vs, vv :: us, .cons r2 h1, .cons r1 h2, .cons r4 h3, .cons r3 h4⟩
/-- a dict's pairs, walked while the dict stands as it did: each time a new tuple -/
def Iti (a : Addr) (g : Gh) (vs us : List V) : It :=
  ⟨fun i H => H a = some (.ext (DictE a g)) ∧ i < vs.length, fun i H x H' => ∃ T k v, x = .ref T ∧ H T = none ∧ H' = upd H T (.tup [k, v]) ∧ vs[i]? = some k ∧ us[i]? = some v, fun i H => H a = some (.ext (DictE a g)) ∧ i = vs.length⟩
theorem turn_items {P : Program} {w : World} {K : PySem.W.Frag} {elts : List Expr} {kk : Nat} {tpos : Pos} (a it : Addr) (hne : a ≠ it) (g : Gh) (vs us : List V) (hv : Vals vs (g.1.map (·.key))) (hw : Vals us (g.1.map (·.val))) :
    Turn P w K (.Tuple elts kk tpos) (Iti a g vs us) [it] it (fun i h => ∃ ok ov, IsItemIter h it a i g.1.toArray.size g.2 ok ov) where
  mem := by simp
  obj := fun i h st b hb => by
    have e : b = it := by simpa using hb
    subst e
    obtain ⟨ok, ov, e⟩ := st
    exact ⟨_, e, fun v z => by cases z⟩
  keep := fun i h h' st k => let ⟨ok, ov, e⟩ := st; ⟨ok, ov, k it (by simp) _ e⟩
  item := by
    intro X hP hw' hK hc i pins s σ H E I hf st hg
    subst hP hw' hK
    obtain ⟨he, hi⟩ := hg
    have hm : s.heap.DictRaw a g.1.toArray g.2 := dicte_at I.hok he
    have hl := hv.length
    have hl2 := hw.length
    simp at hl hl2
    obtain ⟨ku, hku, rk⟩ := hv.get (List.getElem?_eq_getElem hi)
    obtain ⟨vu, hvu, rv⟩ := hw.get (List.getElem?_eq_getElem (show i < us.length by omega))
    have hi' : i < g.1.toArray.size := by simp; omega
    have G := GoesN.rawItems (prog := X.prog) (w := X.w) (A := X.A) (elts := elts) (x1 := kk) (pos := tpos) (I.ok.hd hc) it a hne g.1.toArray g.2
    refine G.goes i s _ E hi' ⟨st, hm⟩ fun v h' tk ⟨T, hi2, ev, hT, hTt⟩ st' hk htk => ?_
    subst ev
    have ek : g.1.toArray[i].key = ku := by
      have : (g.1.map (·.key))[i]? = some (g.1.toArray[i].key) := by simp at hi' ⊢; exact ⟨_, List.getElem?_eq_getElem hi', rfl⟩
      rw [this] at hku; injection hku
    have evv : g.1.toArray[i].val = vu := by
      have : (g.1.map (·.val))[i]? = some (g.1.toArray[i].val) := by simp at hi' ⊢; exact ⟨_, List.getElem?_eq_getElem hi', rfl⟩
      rw [this] at hvu; injection hvu
    rw [ek, evv] at hTt
    have new : ObjOk X.prog X.w (upd H T (.tup [vs[i], us[i]'(by omega)])) h' T (.tup [vs[i], us[i]'(by omega)]) :=
      ⟨by show 2 ≤ sizeLine; decide, [ku, vu], .cons rk (.cons rv .nil), hTt⟩
    have I1 : L2.Inv X pins σ (upd H T (.tup [vs[i], us[i]'(by omega)])) { s with heap := h', toks := tk } :=
      I.turnedNew (ch := [it]) (fun b ob hb q => hk b ob (fun z => hb (by simpa using z)) q) hf hT new
    refine ⟨.ref T, _, I1, rfl, ⟨T, _, _, rfl, I.hok.fresh hT, rfl, List.getElem?_eq_getElem hi, List.getElem?_eq_getElem (by omega)⟩, st'.1, fun b hb => ?_⟩
    have e' : b = it := by simpa using hb
    have hb' : b < s.heap.objs.size := by
      obtain ⟨ok, ov, e⟩ := st
      rw [e']; exact Heap.lt_size e
    rw [upd_ne (Nat.ne_of_lt (Nat.lt_of_lt_of_le hb' hT))]
    exact (hf b hb).1
  done := by
    intro X hP hw' hK hc i pins s σ H E I hf st hg
    subst hP hw' hK
    obtain ⟨he, hi⟩ := hg
    have hm : s.heap.DictRaw a g.1.toArray g.2 := dicte_at I.hok he
    have hl := hv.length
    simp at hl
    have hin : i = g.1.toArray.size := by simp; omega
    subst hin
    have G := GoesN.rawItems (prog := X.prog) (w := X.w) (A := X.A) (elts := elts) (x1 := kk) (pos := tpos) (I.ok.hd hc) it a hne g.1.toArray g.2
    refine G.stops s _ E ⟨st, hm⟩ fun h' tk hk htk => ?_
    exact I.turnedL (t' := tk) (ch := [it]) (fun b o hb q => hk b o (fun z => hb (by simpa using z)) q) hf
  self := fun A i s Q E st h => let ⟨_, _, e⟩ := st; wpAny_pyIter_itemiter e h
section
variable {X : Cx} {W : WX} {Γ : List DSp} {fs : List (Str × D)}
theorem dd_items {o : Expr} {a : IE} {apos cpos tpos : Pos} {elts : List Expr} {kk : Nat} (ho : PE X o (liftE X.w X.K W (wpE Γ fs a))) (hbase : attributeBase o "items" X.env (eval o X.env) = eval o X.env) (hline : (apos.endLine == cpos.line) = true) :
    PI X (.Tuple elts kk tpos) (.Call (.Attribute o "items" apos) [] [] cpos) (liftI X.w X.K W (wpI Γ fs (.items a))) := by
  refine ⟨fun pins s σ H R I ⟨σd, S, E, P, rv, rs, wr, hw, hP⟩ => ?_⟩
  refine wpAny_Call_method0_late hbase hline (thn (ho.run pins s σ H (fun x H1 => ∃ p kvs g S1, x = .ref p ∧ S1 p = some (.dct kvs g) ∧ RS X.w X.K H1 S1 ∧ Ext H S H1 S1 ∧ P ⟨kvs.map fun p => .tup [p.1, p.2], fun S' => S' p = some (.dct kvs g)⟩ S1) I
    ⟨σd, S, E, _, rv, rs, wr, hw, fun d S1 v H1 h1 rd rs1 e1 => ?_⟩) fun v s1 ⟨x, H1, I1, r1, p, kvs, g, S1, ex, eS, rs1, e1, hp⟩ => ?_)
  · unfold itemsD at h1
    split at h1
    · rw [rd_ref] at rd
      split at h1
      · rename_i e
        exact ⟨_, _, _, S1, rd, e, rs1, e1, h1⟩
      · exact h1.elim
    · exact h1.elim
  · subst ex
    cases r1
    obtain ⟨hl, hs, hn, ⟨he, pe⟩, _⟩ := dct_view I1 rs1 eS
    obtain ⟨h1, h2⟩ := tyR_dict pins σ H1 s1 (.ref p) (.ref p) I1 rfl ⟨p, g, rfl, he⟩
    obtain ⟨vs, us, q1, q2, q3, q4⟩ := re_items pe
    have hm : s1.heap.DictRaw p g.1.toArray g.2 := dicte_at I1.hok he
    refine ⟨"dict", "dict.items", F.plainAttrs_dict, F.slot_dict_items, F.type_dict_items, h1, h2, Calls.callWith_builtin rfl (PySem.evalArgs_none ?_)⟩
    refine DT.callItems (es := g.1.toArray) (ep := g.2) hs hm ?_
    have hb : s1.heap.objs.size < (s1.heap.push { cls := .type "dict_items", data := .fields #[.ref p] }).objs.size := by rw [Heap.size_push]; omega
    have I2 : L2.Inv X pins σ H1 { s1 with heap := s1.heap.push { cls := .type "dict_items", data := .fields #[.ref p] } } := I1.kept (t' := s1.toks) fun b o e => Heap.get?_push_of_some _ e
    refine wpAny_pyIter_items_raw ⟨_, Heap.get?_push_size _ rfl, rfl, rfl⟩ (hm.push _) ?_
    have I3 : L2.Inv X pins σ H1 { s1 with heap := (s1.heap.push { cls := .type "dict_items", data := .fields #[.ref p] }).push { cls := .type "dict_itemiterator", data := .fields #[.none, .bool false, .ref p, .int 0 0, .int g.1.toArray.size 0, .int g.2 0, .none, .none] } } :=
      I2.kept (t' := s1.toks) fun b o e => Heap.get?_push_of_some _ e
    have hlt : p < s1.heap.objs.size := hm.lt_size
    refine ⟨_, [(s1.heap.push { cls := .type "dict_items", data := .fields #[.ref p] }).objs.size], _, _, H1, rfl, I3, turn_items p _ (Nat.ne_of_lt (Nat.lt_trans hlt hb)) g vs us q2 q4, ⟨.none, .none, Heap.get?_push_size _ rfl⟩, fun b hb' => ?_, hP _ _ _ _ hp ?_ rs1 e1⟩
    · have e : b = (s1.heap.push { cls := .type "dict_items", data := .fields #[.ref p] }).objs.size := by simpa using hb'
      subst e
      exact I2.fpOk (Nat.le_refl _) (I2.hok.fresh (Nat.le_refl _))
    · have l1 := q1.length
      have l3 := q3.length
      simp at l1 l3
      refine ⟨by simpa using hl, fun H' S' t rs' c i d e => ?_, fun H' S' t rs' c => ?_⟩
      · obtain ⟨he', _⟩ := rs' p _ c
        simp only [List.getElem?_map, Option.map_eq_some_iff] at e
        obtain ⟨kv, ekv, rfl⟩ := e
        obtain ⟨kV, e1, r1⟩ := q1.get (i := i) (d := kv.1) (by simp [ekv])
        obtain ⟨vV, e2, r2⟩ := q3.get (i := i) (d := kv.2) (by simp [ekv])
        refine ⟨⟨he', (List.getElem?_eq_some_iff.mp e1).1⟩, fun x H2 ⟨T, k, v, ex, hT, eH, e3, e4⟩ => ?_⟩
        subst ex eH
        rw [e1] at e3; cases e3
        rw [e2] at e4; cases e4
        have tn := t.trans (tups_new (o := .tup [kV, vV]) hT)
        exact ⟨rd_tup.mpr ⟨T, [kV, vV], rfl, .inl (.inl upd_same), .cons (r1.keep tn) (.cons (r2.keep tn) .nil)⟩, rs'.new hT, ext_new hT⟩
      · obtain ⟨he', _⟩ := rs' p _ c
        exact ⟨he', by simp; omega⟩
theorem dd_mt (hu : X.A.units + 65 < cLine) {m : Me} {o e : Expr} {es : List Expr} {a : IE} {as : IEs} {apos cpos : Pos} (hm : m ∈ [Me.update, .get1, .get2]) (ho : PE X o (liftE X.w X.K W (wpE Γ fs a))) (ha : PA X (e :: es) (liftEs X.w X.K W (es.length + 1) (wpEs Γ fs as)))
    (hbase : attributeBase o m.nm X.env (eval o X.env) = eval o X.env)
    (hfew : ((backTo cpos (starEach (e :: es) X.env)).all (fun x => !x.1) && (backToKw cpos (keywordEach [] X.env)).all (fun x => x.1.isSome) && decide ((e :: es).length + ([] : List Keyword).length + (if ([] : List Keyword).isEmpty then 0 else 1) < 30)) = true)
    (hline : (apos.endLine == cpos.line) = true) (hs : starEach (e :: es) X.env = (false, eval e X.env) :: starEach es X.env) (hplain : (backTo cpos (starEach es X.env)).any (·.1) = false) :
    PE X (.Call (.Attribute o m.nm apos) (e :: es) [] cpos) (liftE X.w X.K W (wpE Γ fs (.mt m a as))) := by
  have hm' := hm
  simp only [List.mem_cons, List.not_mem_nil, or_false] at hm'
  rcases hm' with rfl | rfl | rfl
  · exact e_mt tyR_dict F.plainAttrs_dict F.slot_dict_update F.type_dict_update (m_upd hu) (fun rs r h => recv_dct hm rs r h) ho ha hbase hfew hline hs hplain
  · exact e_mt tyR_dict F.plainAttrs_dict F.slot_dict_get F.type_dict_get (m_get1 hu) (fun rs r h => recv_dct hm rs r h) ho ha hbase hfew hline hs hplain
  · exact e_mt tyR_dict F.plainAttrs_dict F.slot_dict_get F.type_dict_get (m_get2 hu) (fun rs r h => recv_dct hm rs r h) ho ha hbase hfew hline hs hplain
end
end TA
set_option Elab.async false
set_option linter.all false
set_option maxRecDepth 100000
set_option maxHeartbeats 2000000
/-! TA14m: sorted: tuples too, some of them empty. -/
namespace PySem.SeqAt
section
variable {A : Around} {s : Shared}
theorem ta_call_tuple_lt {prog : Program} {w : World} {E : Value → Shared → Prop} {Q : Value → Shared → Prop} {l b : Addr} {items items2 : Array Value} {e r : Nat → Bool} (hl : s.heap.IsTuple l items) (hb : s.heap.IsTuple b items2)
    (he : ∀ j (h1 : j < items.size) (h2 : j < items2.size), EqAt A.in1 s items[j] items2[j] (e j)) (hr : ∀ j (h1 : j < items.size) (h2 : j < items2.size), e j = false → RcLt A.in1 s items[j] items2[j] (r j))
    (h : Q (.bool (firstLt e r (decide (items.size < items2.size)) (List.range (min items.size items2.size)))) s) : wpAny (model prog w) A (call (.builtin "tuple.__lt__") [.ref l, .ref b]) Q E s := by
  obtain ⟨⟨cls, dd, data, sl⟩, ho, hc, n, hd⟩ := id hl
  obtain ⟨⟨cls2, dd2, data2, sl2⟩, ho2, hc2, n2, hd2⟩ := id hb
  simp only at hc hd hc2 hd2
  subst hc hd hc2 hd2
  exact call_meets F.slot_tuple_lt ⟨_, ho, rfl⟩ F.entry_tuple_lt (F.args_tuple_lt_2 _ _) (tuple_ltAt l b items items2 n n2 dd dd2 sl sl2 e r) ⟨ho, ho2, he, hr, h⟩
end
end PySem.SeqAt
namespace PySem.W
open PySem PySem.Calls PyProof.Rows PySem.SeqAt
section
variable {prog : Program} {w : World} {A : Around} {E : Value → Shared → Prop} {s : Shared}
theorem ta_oneLt_tup {xs ys : List PyData} {a b : Value} {as bs : List Addr} {Q : Bool → Shared → Prop} (ra : Reads s.heap a (.tuple xs) as) (rb : Reads s.heap b (.tuple ys) bs) (h : alike (.tuple xs) (.tuple ys) = true)
    (hu : A.units + min (PyData.tuple xs).depth (PyData.tuple ys).depth < cLine) (hq : Q (dataLt (.tuple xs) (.tuple ys)) s) : wpAny (model prog w) A (oneLt' true a b) Q E s := by
  have hal : alikeAll xs ys = true := by simpa [alike] using h
  cases ra with
  | @tuple l o vs n _ as₁ h1 h2 h3 h4 =>
    cases rb with
    | @tuple l' o' vs' n' _ bs₁ k1 k2 k3 k4 =>
      have n1 : vs.size = xs.length := by simpa using ReadsAll.length _ _ _ h4
      have n2 : vs'.size = ys.length := by simpa using ReadsAll.length _ _ _ k4
      rw [dataLt_tuple, ← firstLt_toks xs ys hal, ← n1, ← n2] at hq
      rw [oneLt'_eq]
      simp only [if_true]
      refine wpAny_bind (wpAny_cRoomFor (room_here hu) ?_)
      refine wpAny_bind (wpAny_callSpecialIfBound?_slot (T := "tuple") ⟨_, h1, h2⟩ F.slot_tuple_lt (ta_call_tuple_lt (e := pairEq xs ys) (r := fun j => dataLt (xs.getD j .none) (ys.getD j .none)) ⟨_, h1, h2, _, h3⟩ ⟨_, k1, k2, _, k3⟩ (fun j j1 j2 => ?_) (fun j j1 j2 hj => ?_) ?_))
      · have := eqAt_alikeAll xs ys A.in1 s vs.toList vs'.toList _ _ h4 k4 hal (room_in hu) j (by simpa using j1) (by simpa using j2)
        simpa using this
      · have := rcLt_alikeAll xs ys A.in1 s vs.toList vs'.toList _ _ h4 k4 hal (room_in hu) j (by simpa using j1) (by simpa using j2) hj
        simpa using this
      · exact wpAny_truthy_bool hq
def isMt : PyData → Bool
  | .tuple [] => true
  | _ => false
/-- tuples' first items, where there are any -/
theorem ta_firsts : ∀ {vs : List Value} {ds : List PyData} {Q : List (Option Value) → Shared → Prop}, EachIs (fun v d => ∃ as, Reads s.heap v d as) vs ds → (∀ d ∈ ds, ∃ xs, d = .tuple xs) →
    (∀ os : List (Option Value), os.map (·.isSome) = ds.map (fun d => !isMt d) → Q os s) → wpAny (model prog w) A (vs.mapM firstOfTuple') Q E s
  | _, _, Q, .nil, _, h => by rw [List.mapM_nil]; exact wpAny_pure (h [] rfl)
  | v :: vs, d :: ds, Q, .cons ⟨as, r⟩ t, hd, h => by
    obtain ⟨xs, rfl⟩ := hd d (List.mem_cons_self ..)
    cases r with
    | @tuple l o ws n _ as₁ h1 h2 h3 h4 =>
      have n1 : ws.size = xs.length := by simpa using ReadsAll.length _ _ _ h4
      rw [List.mapM_cons]
      refine wpAny_bind ?_
      rw [kas_first_eq]
      refine wpAny_bind (Looks.here (show Looks (model prog w) s.heap (typeOf (.ref l)) o.cls from (Looks.ld h1).andThen .now) ?_)
      rw [h2, if_neg (by first | decide | simp)]
      refine wpAny_bind (listItems_at h1 h3 (wpAny_pure ?_))
      refine wpAny_bind (ta_firsts t (fun d hd' => hd d (List.mem_cons_of_mem _ hd')) fun os ho => wpAny_pure (h _ ?_))
      rw [List.map_cons, List.map_cons, ho]
      cases xs with
      | nil => simp at n1; simp [n1, isMt]
      | cons x r => simp at n1; simp [n1, isMt]
/-- tuples, some of them perhaps empty, can be sorted -/
theorem ta_sortsTup {vs : List Value} {ds : List PyData} (e : EachIs (fun v d => ∃ as, Reads s.heap v d as) vs ds) (hal : AllAlike ds) (hk : ∀ d ∈ ds, ∃ xs, d = .tuple xs) (hu : ∀ d, d ∈ ds → A.units + d.depth < cLine) : SortsAt prog w A s (dataKind s.heap ds) vs := by
  have room : ∀ {d d' : PyData}, d ∈ ds → A.units + min d.depth d'.depth < cLine := fun {d d'} hd => Nat.lt_of_le_of_lt (Nat.add_le_add_left (Nat.min_le_left _ _) _) (hu d hd)
  cases hm : ds.all fun d => !isMt d with
  | true =>
    refine SortsAt.data e hal (.inl fun d hd => ?_) hu
    obtain ⟨xs, rfl⟩ := hk d hd
    have := List.all_eq_true.mp hm _ hd
    cases xs with
    | nil => simp [isMt] at this
    | cons x r => exact ⟨x, r, rfl⟩
  | false =>
    have keys : ∀ v, v ∈ vs → ∃ a, (dataKind s.heap ds).keyOf v = some a := fun v hv => by
      obtain ⟨d, hd, as, r⟩ := e.left v hv
      exact ⟨_, dataKind_some hal hd r⟩
    have lt1 : H.LtAt prog w A s (dataKind s.heap ds) oneType' := by
      intro E x y a b Q ha hb hq
      obtain ⟨d, as, hd, ra, rfl⟩ := dataKind_inv ha
      obtain ⟨d', as', hd', rb, rfl⟩ := dataKind_inv hb
      obtain ⟨xs, rfl⟩ := hk d hd
      obtain ⟨ys, rfl⟩ := hk d' hd'
      rw [keyLt'_oneType]
      exact ta_oneLt_tup ra rb (hal _ hd _ hd') (room hd) hq
    have lt2 : H.LtAt prog w A s (dataKind s.heap ds) general' := by
      intro E x y a b Q ha hb hq
      obtain ⟨d, as, hd, ra, rfl⟩ := dataKind_inv ha
      obtain ⟨d', as', hd', rb, rfl⟩ := dataKind_inv hb
      obtain ⟨xs, rfl⟩ := hk d hd
      show wpAny _ _ (oneLt' false x y) _ _ _
      exact oneLt_alike (fun h => nomatch h) ra rb (hal _ hd _ hd') (fun h => nomatch h) (room hd) hq
    cases e with
    | nil => exact ⟨keys, general', lt2, fun h2 => absurd h2 (by simp)⟩
    | @cons v d vs' ds' hr t =>
      have e : EachIs (fun v d => ∃ as, Reads s.heap v d as) (v :: vs') (d :: ds') := .cons hr t
      cases hmt : isMt d with
      | false =>
        refine ⟨keys, general', lt2, fun h2 E Q hq => ?_⟩
        rw [kat_kind_eq, List.mapM_toArray, map_eq_pure_bind]
        refine wpAny_bind (wpAny_bind (ta_firsts e hk fun os ho => wpAny_pure ?_))
        have hall : (os.toArray.all fun x => x.isSome) = false := by
          rw [List.all_toArray]
          have : os.all (fun x => x.isSome) = ((d :: ds').map fun d => !isMt d).all id := by rw [← ho]; simp
          rw [this]; simpa using hm
        rw [hall]
        simp only [Bool.false_eq_true, if_false]
        cases os with
        | nil => simp at ho
        | cons o os =>
          have h0 : o.isSome = !isMt d := by simpa using (List.cons.inj ho).1
          rw [hmt] at h0
          obtain ⟨u, rfl⟩ := Option.isSome_iff_exists.mp h0
          simp
          exact wpAny_pure hq
      | true =>
        refine ⟨keys, oneType', lt1, fun h2 E Q hq => ?_⟩
        rw [kat_kind_eq, List.mapM_toArray, map_eq_pure_bind]
        refine wpAny_bind (wpAny_bind (ta_firsts e hk fun os ho => wpAny_pure ?_))
        have hall : (os.toArray.all fun x => x.isSome) = false := by
          rw [List.all_toArray]
          have : os.all (fun x => x.isSome) = ((d :: ds').map fun d => !isMt d).all id := by rw [← ho]; simp
          rw [this]; simpa using hm
        rw [hall]
        simp only [Bool.false_eq_true, if_false]
        cases os with
        | nil => simp at ho
        | cons o os =>
          have h0 : o.isSome = !isMt d := by simpa using (List.cons.inj ho).1
          rw [hmt] at h0
          have h1 : o = none := by simpa using h0
          subst h1
          simp
          rw [oneTypeOnly'_eq, List.mapM_toArray, map_eq_pure_bind]
          refine wpAny_bind (wpAny_bind (wpAny_bind (kas_mapM (r := Value.type "tuple") _ (fun v hv Q' hq => ?_) (wpAny_pure ?_))))
          · obtain ⟨d', hd', as, r⟩ := e.left v hv
            obtain ⟨xs, rfl⟩ := hk d' hd'
            exact (looks_reads r).here hq
          · have hall3 : ((List.map (fun _ => Value.type "tuple") (v :: vs')).toArray.all fun x => x == Value.type "tuple") = true := by
              simp only [List.all_toArray, List.all_map, List.all_eq_true]
              intro _ _
              exact beq_self_eq_true _
            have h0 : (List.map (fun _ => Value.type "tuple") (v :: vs')).toArray[0]? = some (Value.type "tuple") := by simp
            rw [h0]
            simp only [hall3, if_true]
            exact wpAny_pure (wpAny_pure hq)
end
end PySem.W
set_option Elab.async false
set_option linter.all false
set_option maxRecDepth 100000
set_option maxHeartbeats 2000000
/-! TA15a: sorted. -/
namespace PySem.W
open PySem PySem.Calls PyProof.Rows PySem.SeqAt
section
variable {prog : Program} {w : World} {A : Around} {E : Value → Shared → Prop} {s : Shared}
theorem ta_alike_tup {xs : List PyData} {q : PyData} (h : alike (.tuple xs) q = true) : ∃ ys, q = .tuple ys := by
  cases q <;> first | exact ⟨_, rfl⟩ | simp [alike] at h
theorem ta_alike_tup' {xs : List PyData} {q : PyData} (h : alike q (.tuple xs) = true) : ∃ ys, q = .tuple ys := by
  cases q <;> first | exact ⟨_, rfl⟩ | simp [alike] at h
theorem ta_sortsAny {vs : List Value} {ds : List PyData} (e : EachIs (fun v d => ∃ as, Reads s.heap v d as) vs ds) (hal : AllAlike ds) (hn : ∀ d ∈ ds, d ≠ .none) (hu : ∀ d, d ∈ ds → A.units + d.depth < cLine) : SortsAt prog w A s (dataKind s.heap ds) vs := by
  by_cases h : ∃ d ∈ ds, ∃ xs, d = .tuple xs
  · obtain ⟨d, hd, xs, rfl⟩ := h
    exact ta_sortsTup e hal (fun d' hd' => ta_alike_tup (hal _ hd _ hd')) hu
  · exact SortsAt.data e hal (.inr fun d hd => ⟨hn d hd, fun xs q => h ⟨d, hd, xs, q⟩⟩) hu
/-- sorted(x): x's items are collected, what they read as -/
theorem ta_sorted {β : Type} {r : Addr} {G : List Value → Prop} {R : Value → β → Prop} {enc : β → PyData} {bs : List β} {Q : Value → Shared → Prop}
    (hcol : ∀ P : List Value → Shared → Prop, (∀ (h' : Heap) (tk : Nat) (us : List Value), (∀ b o, s.heap.get? b = some o → h'.get? b = some o) → G us → P us { s with heap := h', toks := tk }) → wpAny (model prog w) A.in1 (collect (.ref r)) P E s)
    (hG : ∀ us, G us → EachIs R us bs ∧ EachIs (fun v b => ∃ as, Reads s.heap v (enc b) as) us bs) (hal : AllAlike (bs.map enc)) (hn : ∀ b ∈ bs, enc b ≠ .none) (hL : bs.length ≤ sizeLine)
    (hu : ∀ b, b ∈ bs → A.units + 2 + (enc b).depth < cLine)
    (h : ∀ (a : Addr) (h1 h' : Heap) (tk : Nat) (out : List Value) (c : Nat), (∀ b o, s.heap.get? b = some o → h1.get? b = some o) → h1.objs.size ≤ a → (∀ b o, h1.get? b = some o → h'.get? b = some o) → h'.get? a = some (seqObj "list" (List.toArray out) c) → EachIs R out (bs.mergeSort (dataLe false enc)) → Q (.ref a) { s with heap := h', toks := tk }) :
    wpAny (model prog w) A (call (.builtin "sorted") [.ref r]) Q E s := by
  refine call_function_entry kind_sorted plain_sorted entry_sorted (args_sorted1 _) ?_
  unfold Builtin.«sorted»
  refine wpAny_bind (m := checkCount "sorted" 1 1 _) (wpAny_pure ?_)
  refine wpAny_bind (hcol _ fun h1 tk us k1 g => ?_)
  obtain ⟨e, er⟩ := hG us g
  have hlen : us.length = bs.length := e.length
  refine wpAny_bind (wpAny_newList ?_ (by rw [hlen]; exact hL))
  have hat : (h1.push (seqObj "list" us.toArray 0)).get? h1.objs.size = some (seqObj "list" us.toArray 0) := Heap.get?_push_size _ rfl
  have kk : ∀ b o, h1.get? b = some o → b ≠ h1.objs.size ∧ (h1.push (seqObj "list" us.toArray 0)).get? b = some o := fun b o q => ⟨Nat.ne_of_lt (Heap.lt_size q), Heap.get?_push_of_some _ q⟩
  have er' : EachIs (fun v b => ∃ as, Reads (sortingHeap (h1.push (seqObj "list" us.toArray 0)) h1.objs.size us) v (enc b) as) us bs :=
    er.mono fun _ _ ⟨as, r⟩ => ⟨as, PyProof.Rows.Reads.keeps (fun b o q => sortingHeap_old (kk b o (k1 b o q)).1 (kk b o (k1 b o q)).2) r⟩
  refine wpAny_bind (wpAny_holding (wpAny_call_entry_kw slot_list_sort ⟨_, hat, rfl⟩ entry_list_sort (list_sort_vals (s := { s with heap := h1.push (seqObj "list" us.toArray 0), toks := tk }) hat
    (ta_sortsAny (s := { s with heap := sortingHeap (h1.push (seqObj "list" us.toArray 0)) h1.objs.size us, toks := tk }) (each_map (R := fun v d => ∃ as, Reads (sortingHeap (h1.push (seqObj "list" us.toArray 0)) h1.objs.size us) v d as) enc er') hal (fun d hd => ?hn) (bound_map (A := A.in1.in1) hu)) (by rw [hlen]; exact hL) ⟨_, rfl, ?body⟩) (args_list_sort _)))
  case hn =>
    obtain ⟨b, hb, rfl⟩ := List.mem_map.mp hd
    exact hn b hb
  case body =>
    obtain ⟨c, hc⟩ := sortedHeap_at (vs := us) (out := (sortVals (dataKind (sortingHeap (h1.push (seqObj "list" us.toArray 0)) h1.objs.size us) (bs.map enc)) false us us).toArray) hat
    exact wpAny_pure ⟨_, rfl, h _ h1 _ tk _ c k1 (Nat.le_refl _) (fun b o q => (sortedHeap_old (kk b o q).1 (Heap.lt_size (kk b o q).2)).trans (kk b o q).2) hc (sortVals_data false e er' hal)⟩
end
section
variable {prog : Program} {w : World} {A : Around} {E : Value → Shared → Prop} {s : Shared}
/-- a tuple's items, collected -/
theorem ta_collect_tup {l : Addr} {vs : List Value} {Q : List Value → Shared → Prop} (hl : s.heap.IsTuple l vs.toArray) (hsz : vs.length ≤ sizeLine)
    (h : ∀ h' tk us, (∀ b o, s.heap.get? b = some o → h'.get? b = some o) → us = vs → Q us { s with heap := h', toks := tk }) :
    wpAny (model prog w) A (collect (.ref l)) Q E s := by
  obtain ⟨o, ho, hc, n, hd⟩ := id hl
  unfold collect
  refine wpAny_bind (wpAny_runValue (codeAny_builtin entry_proto_collect' ?_))
  show wpAny _ _ (do again (.builtin "list.__iadd__" ⟨[← newList [], .ref l], []⟩)) _ _ s
  refine wpAny_bind (wpAny_newList (wpAny_pure ⟨Code.quiet_builtin _ (by decide +kernel), codeAny_builtin entry_list_iadd' ?_⟩))
  show wpAny _ _ (Builtin.List.listExtendWith (.ref s.heap.objs.size) (.ref l) (.ref s.heap.objs.size)) _ _ { s with heap := s.heap.push (seqObj "list" #[] 0) }
  unfold Builtin.List.listExtendWith
  have ho' : (s.heap.push (seqObj "list" #[] 0)).get? l = some o := Heap.get?_push_of_some _ ho
  refine wpAny_bind (wpAny_typeOf (T := "tuple") ⟨o, ho', hc⟩ ?_)
  have ht : (Value.type "tuple" == Value.type "tuple") = true := by rfl
  rw [if_pos (by rw [ht]; simp)]
  refine wpAny_bind (listItems_at ho' hd ?_)
  refine wpAny_bind (listItems_at (xs := #[]) (n := 0) (Heap.get?_push_size _ rfl) rfl ?_)
  rw [if_neg (by simp)]
  refine wpAny_bind (listUpdate_at (xs := #[]) (n := 0) (Heap.get?_push_size _ rfl) rfl ?_ (Nat.zero_le _) (by show (#[] ++ vs.toArray).size ≤ sizeLine + 1; simp only [Array.size_append, List.size_toArray, List.length_nil]; omega))
  refine wpAny_pure ?_
  refine wpAny_bind (wpAny_load (get?_update_seq (Heap.get?_push_size _ rfl) _) ?_)
  exact wpAny_pure (h _ _ _ (fun b o e => by
    rw [Heap.get?_update_ne _ _ _ _ (Nat.ne_of_lt (Heap.lt_size e))]
    exact Heap.get?_push_of_some _ e) (by simp))
end
end PySem.W
namespace TA
open PySem PySem.Spec L2
section
variable {w : World} {K : PySem.W.Frag} {H : Hp}
theorem refP_emp : refP emp 6 = refP emp 0 := by funext a; simp [refP, emp]
theorem encs_of : ∀ {xs : List D} {ps : List PyData}, toPs (refP emp 0) xs = some ps → ps = xs.map encD ∧ ∀ x ∈ xs, pd emp x = some (encD x)
  | [], ps, h => by simp [toPs] at h; subst h; exact ⟨rfl, fun _ h => by cases h⟩
  | x :: r, ps, h => by
    simp only [toPs] at h
    split at h
    · rename_i p q h1 h2
      cases h
      have e : pd emp x = some p := by unfold pd; rw [refP_emp]; exact h1
      have e2 : encD x = p := by unfold encD; rw [e]; rfl
      obtain ⟨i1, i2⟩ := encs_of h2
      refine ⟨by rw [List.map_cons, e2, ← i1], fun y hy => ?_⟩
      rcases List.mem_cons.mp hy with rfl | hy
      · rw [e2]; exact e
      · exact i2 y hy
    · cases h
/-- an item of what is sorted -/
def SortR (K : PySem.W.Frag) (H : Hp) (u : Value) (d : D) : Prop := ∃ v, RelV v u ∧ RD K H d v
theorem each_sortR : ∀ {xs : List D} {vs : List V} {us : List Value}, RDs K H xs vs → Vals vs us → PySem.W.EachIs (SortR K H) us xs
  | [], _, us, h, v => by
    simp only [RDs] at h; subst h
    cases v; exact .nil
  | x :: r, _, us, h, v => by
    obtain ⟨y, ys, rfl, h1, h2⟩ := h.uncons
    cases v with
    | cons a b => exact .cons ⟨_, a, h1⟩ (each_sortR h2 b)
theorem sortR_back : ∀ {us : List Value} {xs : List D}, PySem.W.EachIs (SortR K H) us xs → ∃ vs, RDs K H xs vs ∧ Vals vs us
  | _, _, .nil => ⟨[], .nil, .nil⟩
  | _, _, .cons ⟨v, a, b⟩ r => by
    obtain ⟨vs, h1, h2⟩ := sortR_back r
    exact ⟨v :: vs, .cons b h1, .cons a h2⟩
end
end TA
set_option Elab.async false
set_option linter.all false
set_option maxRecDepth 100000
set_option maxHeartbeats 2000000
/-! TA15b: sorted, of lists, tuples and dicts; repr. -/
namespace TA
open PySem PySem.Spec L2
section
variable {X : Cx}
/-- items that read as they should -/
theorem each_reads {pins : List (Addr × Obj)} {σ : L2.St} {H : Hp} {s : Shared} {S : Sto} (I : L2.Inv X pins σ H s) (rs : RS X.w X.K H S) : ∀ {xs : List D} {us : List Value}, (∀ x ∈ xs, pd emp x = some (encD x)) → PySem.W.EachIs (SortR X.K H) us xs → PySem.W.EachIs (fun v b => ∃ as, Reads s.heap v (encD b) as) us xs
  | _, _, _, .nil => .nil
  | _, _, h, .cons ⟨v, a, b⟩ r => .cons (Dp.reads I _ v _ (pd_dp (S := emp) (w := X.w) (fun _ _ e => by cases e) b (h _ List.mem_cons_self)) a) (each_reads I rs (fun x hx => h x (List.mem_cons_of_mem _ hx)) r)
/-- what is sorted is laid as a new list -/
theorem sorted_fin {pins : List (Addr × Obj)} {σ : L2.St} {H : Hp} {s : Shared} {S : Sto} {Q : VK} {P : DK} {r : Addr} {xs : List D} {ps : List PyData} (hu : X.A.units + 70 < cLine) (I : L2.Inv X pins σ H s) (rs : RS X.w X.K H S)
    (hps : toPs (refP emp 0) xs = some ps) (hal : PySem.W.AllAlike ps) (hsh : ∀ p ∈ ps, SeqAt.shaped p = true ∧ p ≠ .none) (hL : xs.length ≤ sizeLine) (hq : fresh S (.lst (xs.mergeSort leP)) P)
    (hP : ∀ d S' v H', P d S' → RD X.K H' d v → RS X.w X.K H' S' → Ext H S H' S' → Q v H')
    (hcol : ∀ R : List Value → Shared → Prop, (∀ h' tk us, (∀ b o, s.heap.get? b = some o → h'.get? b = some o) → PySem.W.EachIs (SortR X.K H) us xs → R us { s with heap := h', toks := tk }) → wpAny (model X.prog X.w) X.A.in1 (collect (.ref r)) R X.xe s) :
    wpAny (model X.prog X.w) X.A (call (.builtin "sorted") [.ref r]) (EP X pins σ Q) X.xe s := by
  obtain ⟨rfl, hpd⟩ := encs_of hps
  refine PySem.W.ta_sorted (R := SortR X.K H) (enc := encD) (bs := xs) (G := fun us => PySem.W.EachIs (SortR X.K H) us xs) hcol (fun us g => ⟨g, each_reads I rs hpd g⟩) hal (fun b hb => (hsh _ (List.mem_map.mpr ⟨b, hb, rfl⟩)).2) hL (fun b hb => ?_) fun a h1 h' tk out c k1 ha k2 hat e => ?_
  · have := SeqAt.depth_of_shaped (hsh _ (List.mem_map.mpr ⟨b, hb, rfl⟩)).1
    omega
  · obtain ⟨vs, h2, h3⟩ := sortR_back e
    have I1 : L2.Inv X pins σ H { s with heap := h1, toks := tk } := I.kept k1
    have hn : H a = none := I1.hok.fresh ha
    have hlen : vs.length ≤ sizeLine := by
      have e1 := h2.length
      rw [List.length_mergeSort] at e1
      omega
    exact ⟨.ref a, _, I1.laid (t' := tk) k2 ha (show ObjOk X.prog X.w _ h' _ (.lst vs) from ⟨hlen, out, c, h3, hat⟩), rfl,
      hP _ _ _ _ (hq _ (rs.free hn)) (rd_ref.mpr rfl) (rs.lay hn ⟨_, upd_same, h2.keep (tups_new hn)⟩) (ext_lay hn)⟩
theorem c_sorted (hc : X.calm = true) (hu : X.A.units + 70 < cLine) : CallR X (.builtin "sorted") (liftCall X .sorted) := by
  intro pins s σ H xs us Q I r ⟨ds, S, P, rds, rs, hf, hP⟩
  obtain ⟨x, v, rfl, rfl, rv, xs, ps, e, hps, hal, hsh, hq⟩ := one_rd hf rds
  obtain ⟨u, rfl, rx⟩ := vals1 r
  rcases seqD_cases e with rfl | ⟨a, rfl, e1⟩ | ⟨a, kvs, gh, rfl, e1, rfl⟩
  · obtain ⟨a, vs, rfl, h1, r1⟩ := rd_tup.mp rv
    cases rx
    obtain ⟨its, hv, ht, hz⟩ := I.tuple h1
    have hl : its.length = xs.length := by rw [r1.length, hv.length]
    refine sorted_fin hu I rs hps hal hsh (by rw [r1.length]; exact hz) hq hP fun R hR => PySem.W.ta_collect_tup (vs := its) ht (by rw [hl, r1.length]; exact hz) fun h' tk us k e => ?_
    subst e
    exact hR h' tk _ k (each_sortR r1 hv)
  · rw [rd_ref] at rv; subst rv
    cases rx
    obtain ⟨vs, h1, r1⟩ := rs _ _ e1
    obtain ⟨its, hv, ⟨o, n, ho, h2, _, h4⟩, hz⟩ := I.list (.of h1)
    have hl : its.length = xs.length := by rw [r1.length, hv.length]
    refine sorted_fin hu I rs hps hal hsh (by rw [r1.length]; exact hz) hq hP fun R hR => PyProof.Rows.collect_list (vs := its) ⟨o, ho, h2, n, h4⟩ (hR _ s.toks _ (fun b o e => ?_) (each_sortR r1 hv)) (by rw [hl, r1.length]; exact hz)
    rw [Heap.get?_update_ne _ _ _ _ (Nat.ne_of_lt (Heap.lt_size e))]
    exact Heap.get?_push_of_some _ e
  · rw [rd_ref] at rv; subst rv
    cases rx
    obtain ⟨hl, hs, hn, ⟨he, pe⟩, _⟩ := dct_view I rs e1
    obtain ⟨vs, h1, h2⟩ := re_keys pe
    have hm : s.heap.DictRaw a gh.1.toArray gh.2 := dicte_at I.hok he
    have hlen := h2.length
    have hle : kvs.length = gh.1.length := Paired.length pe
    refine sorted_fin hu I rs hps hal hsh (by simpa using hl) hq hP fun R hR => PySem.W.kdu_collect (A := X.A.in1) (KdlSrc.rawDict hs) (I.ok.hd hc) hm (by simp; omega) fun h' tk acc k hi => ?_
    have hv : Vals vs acc.toList := by
      refine vals_of h2 ?_ fun j v ev => ?_
      · have := hi.1; simpa using this
      · obtain ⟨hj, e3⟩ := hi.2 j v (by simpa using ev)
        subst e3
        simp at hj ⊢
        exact ⟨_, List.getElem?_eq_getElem hj, rfl⟩
    exact hR h' tk _ k (each_sortR h1 hv)
/-- repr -/
theorem c_repr (hg : X.A.guards = some []) (hu : X.A.units + 70 < cLine) : CallR X (.builtin "repr") (liftCall X .repr) := by
  intro pins s σ H xs us Q I r ⟨ds, S, P, rds, rs, hf, hP⟩
  obtain ⟨x, v, rfl, rfl, rv, p, e, hsh, hsw, hz, hq⟩ := one_rd hf rds
  obtain ⟨u, rfl, rx⟩ := vals1 r
  obtain ⟨as, hr⟩ := Dp.reads I p v u (pd_dp rs rv e) rx
  have hd := SeqAt.depth_of_shaped hsh
  have hlay := SeqAt.canLay_of_shaped hsh
  have fin : ∀ h' t tk, (∀ b o, s.heap.get? b = some o → h'.get? b = some o) → EP X pins σ Q (.str p.shown t) { s with heap := h', toks := tk } := fun h' t tk k =>
    ⟨.str p.shown, H, I.kept k, ⟨t, rfl⟩, hP _ _ _ _ hq (rd_str.mpr rfl) rs .refl⟩
  have hnd := PyData.hasDict_of_canLay p hlay
  have hgo : ∀ a, u = .ref a → wpAny (model X.prog X.w) X.A (call (.builtin "repr") [u]) (EP X pins σ Q) X.xe s := fun a e => by
    subst e
    exact repr_of_reads' hr hsw (PyData.noDict_hsm hnd) hg (by omega) (fun _ _ e => e) (fun h' u tk hk => fin h' u tk hk) hz
  cases hr with
  | list _ _ _ _ => exact hgo _ rfl
  | tuple _ _ _ _ => exact hgo _ rfl
  | dict _ _ _ _ _ => exact hgo _ rfl
  | none => exact PySem.P.repr_of_none (fin _ _ _ fun _ _ e => e)
  | bool b => exact PySem.P.repr_of_bool (by have := fin s.heap s.toks (s.toks + 1) fun _ _ e => e; simpa only [PyData.shown] using this)
  | int i t => exact PySem.P.repr_of_int (by simpa [PyData.showable] using hsw) (by have := fin s.heap s.toks (s.toks + 1) fun _ _ e => e; simpa only [PyData.shown] using this)
  | str z t => exact PySem.P.repr_of_str (by have := fin s.heap s.toks (s.toks + 1) fun _ _ e => e; simpa only [PyData.shown] using this) (by simpa only [PyData.shown, line] using hz)
end
end TA
set_option Elab.async false
set_option linter.all false
set_option maxRecDepth 100000
set_option maxHeartbeats 4000000
/-! TA16: the head's facts: defs, classes of errors, no lists among the module's things. -/
namespace TA
open PySem PySem.Spec L2
/-! ### classes of errors -/
def oexB (K : PySem.W.Frag) (C : Addr) : Bool := (match K.lookup C with
    | some ⟨.type "type", _, .cls cd, sl⟩ => (match cd.mro, sl.toList with
      | .ref C' :: bm, [_, _, _, _, some (.builtin n), _] => C' == C && (n == "ValueError.__new__" && (!cd.hasDel && (cd.hasDict && PySem.HandSPX.refsVE bm)))
      | _, _ => false)
    | _ => false) && (decide (PySem.W.findIn K (.ref C) "__setattr__" = some (some (.builtin "object.__setattr__"))) && (decide (PySem.W.subIn K (.ref C) (.type "BaseException") = some true) && (decide (PySem.W.typeIn K (.ref C) = some (.type "type")) && PySem.W.keepIn K (.ref C))))
theorem oexB_ok {K : PySem.W.Frag} {C : Addr} (h : oexB K C = true) : OexC K C := by
  unfold oexB at h
  simp only [Bool.and_eq_true, decide_eq_true_eq] at h
  obtain ⟨q, h1, h2, h3, h4⟩ := h
  refine ⟨?_, h1, h2, h3, h4⟩
  split at q
  · rename_i dd cd sl ho
    split at q
    · rename_i C' bm k0 k1 k2 k3 n k5 hm hs
      simp only [Bool.and_eq_true, beq_iff_eq, Bool.not_eq_true'] at q
      obtain ⟨rfl, rfl, hdel, hdct, ht⟩ := q
      obtain ⟨nm, bs, mro, ns, qn, hd, sn, sub, ab, col, del⟩ := cd
      dsimp only at hm hdel hdct
      subst hm hdel hdct
      have hsl : sl = #[k0, k1, k2, k3, some (.builtin "ValueError.__new__"), k5] := by
        obtain ⟨l⟩ := sl
        simp only at hs
        rw [hs]
      subst hsl
      exact ⟨nm, qn, ns, bs, bm, sn, sub, ab, col, dd, k0, k1, k2, k3, k5, ho, ht⟩
    · cases q
  · cases q
/-- the class in which the error's __init__ stands -/
def dOf (c : Str) : Str := if c = "TextError" ∨ c = "LogError" ∨ c = "CommandError" then c else "ReasonError"
/-- that __init__ -/
def iOf (K : PySem.W.Frag) (d : Str) : Addr := He.ma K (clA K d) "__init__"
def errB (K : PySem.W.Frag) (c : Str) : Bool :=
  decide (c ∈ errNames) && (decide (PySem.W.nsIn K mainGlobals c = some (some (.ref (clA K c)))) && (xfB K (clA K c) && ((fldNames.all fun f => decide (PySem.W.findIn K (.ref (clA K c)) f = some none)) &&
    ((errNames.all fun c2 => !decide (PySem.W.nsIn K mainGlobals c2 = some (some (.ref (clA K c2)))) || decide (PySem.W.exmOne K (.ref (clA K c)) (.ref (clA K c2)) = some (decide (c2 ∈ above c)))) &&
      (oexB K (clA K c) && (decide (PySem.W.mroIn K (clA K c) (.ref (clA K (dOf c))) = some true) && (decide (PySem.W.ks_superIn K (clA K c) (clA K (dOf c)) "__init__" = some (some (.builtin "ValueError.__init__"))) &&
        (decide (PySem.W.subIn K (.ref (clA K c)) (.type "ValueError") = some true) && (decide (PySem.W.findIn K (.ref (clA K c)) "__init__" = some (some (.ref (iOf K (dOf c))))) && decide (PySem.W.typeIn K (.ref (iOf K (dOf c))) = some (.type "function")))))))))))
theorem errB_known {K : PySem.W.Frag} {c : Str} (h : errB K c = true) : KnownC K c := by
  unfold errB at h
  simp only [Bool.and_eq_true, decide_eq_true_eq] at h
  obtain ⟨h1, h2, h3, h4, h5, _⟩ := h
  refine ⟨h1, xfB_ok h3, fun f hf => of_decide_eq_true (List.all_eq_true.mp h4 f hf), fun c2 hc e => ?_⟩
  have := List.all_eq_true.mp h5 c2 hc
  rw [e] at this
  simpa using this
theorem errB_cls {K : PySem.W.Frag} {c : Str} (h : errB K c = true) : ClsS K (clA K c) (clA K (dOf c)) := by
  unfold errB at h
  simp only [Bool.and_eq_true, decide_eq_true_eq] at h
  obtain ⟨h1, h2, h3, h4, h5, h6, h7, h8, h9, _⟩ := h
  exact ⟨oexB_ok h6, h7, h8, h9⟩
/-! ### an __init__ of such a class -/
abbrev FnI : Type := Option (Str × Str × Arguments × FuncBody × Scope × Addr × List Str × Addr)
def fnI (K : PySem.W.Frag) (d : Str) : FnI := match K.lookup (iOf K d) with
  | some ⟨_, _, .func fd, _⟩ => some (fd.name, fd.qualname, fd.params, fd.body, fd.scope, fd.globals, fd.closure.map (·.1), fd.builtins)
  | _ => none
structure InD where
  cls : Str
  qual : Str
  params : Arguments
  body : List Stmt
  scope : Scope
def InD.val (d : InD) : FnI := some ("__init__", d.qual, d.params, .stmts d.body, d.scope, mainGlobals, ["__class__"], builtinsNs)
def initB (file : Str) (K : PySem.W.Frag) (d : Str) : Bool := match K.lookup (iOf K d) with
  | some ⟨_, _, .func fd, _⟩ => (match fd.code, fd.closure with
    | .ref cda, [(_, cc)] => PySem.W.codeIn K (.ref cda) fd.qualname && ((match fd.defaults with | .none => true | _ => false) && ((match K.lookup cda with
        | some ⟨_, _, .fields vs, _⟩ => (match (vs[2]? : Option Value) with
          | some (.str f _) => file == f
          | _ => false)
        | _ => false) && ((match K.lookup cc with
        | some ⟨_, _, .cell (some (.ref D)), _⟩ => D == clA K d && (PySem.W.clsIn K D).isSome
        | _ => false) && decide (PySem.W.nsIn K cStatics "thirdparty.any" = some none))))
    | _, _ => false)
  | _ => false
/-- what its scope and its parameters say -/
def supB (ps : List Str) (sc : Scope) : Bool := (match sc.kind with | .function => true | _ => false) && (!sc.isCoroutine && (!sc.isGenerator && (decide ps.Nodup && ((ps.all fun x => decide (sc.names.lookup x = some .local)) && (decide (sc.names.lookup ("super" : Str) = some .globalImplicit) &&
  (decide (sc.names.lookup ("__class__" : Str) = some .free) && ((sc.names.all fun x => !decide (x.2 = .cell)) && (sc.names.all fun x => !decide (x.2 = .free) || decide (x.1 = ("__class__" : Str))))))))))
theorem supB_ok {ps : List Str} {sc : Scope} (h : supB ps sc = true) : SupScope ps sc := by
  unfold supB at h
  simp only [Bool.and_eq_true, decide_eq_true_eq, Bool.not_eq_true', List.all_eq_true, Bool.or_eq_true, decide_eq_false_iff_not] at h
  obtain ⟨h1, h2, h3, h4, h5, h6, h7, h8, h9⟩ := h
  refine ⟨?_, h2, h3, h4, h5, h6, h7, fun x hx => h8 x hx, fun x hx => ?_⟩
  · cases e : sc.kind <;> simp [e] at h1 ⊢
  · have := PySem.mem_of_lookup hx
    rcases h9 _ this with q | q
    · exact absurd rfl q
    · exact q
theorem defS_of {P : Program} {K : PySem.W.Frag} {mg : Str → Option Value} {d : InD} {ps : List Str} {ar : Arg} (e : fnI K d.cls = d.val) (c : initB P.main.file K d.cls = true) (sc : supB ps d.scope = true) (ha : (d.params.posonlyargs ++ d.params.args).head? = some ar) (hp : ps[0]? = some ar.arg)
    (top : (P.main.scope.names.lookup ("super" : Str)).isSome = false) (hm : mg "super" = none) : ∃ cc fd, DefS P K mg (iOf K d.cls) cc (clA K d.cls) fd ps d.body ∧ (∃ kV doc pm an cda ct, fd = PySem.W.ksFn "__init__" d.qual d.params d.body d.scope .none kV doc pm an (.ref cda) ct cc) := by
  unfold fnI at e
  unfold initB at c
  split at c
  · rename_i oc od fd osl lk
    rw [lk] at e
    split at c
    · rename_i cda y cc hcode hclo
      obtain ⟨n1, n2, n3, n4, n5, n6, n7, n8, n9, n10, n11, n12, n13, n14, n15⟩ := fd
      dsimp only at hcode hclo c e
      subst hcode hclo
      simp only [InD.val, Option.some.injEq, Prod.mk.injEq, List.map_cons, List.map_nil, List.cons.injEq, and_true] at e
      obtain ⟨rfl, rfl, rfl, rfl, rfl, rfl, rfl, rfl⟩ := e
      simp only [Bool.and_eq_true, decide_eq_true_eq] at c
      obtain ⟨c1, c0, c2, c3, c4⟩ := c
      obtain rfl : n8 = .none := by cases n8 <;> first | rfl | cases c0
      split at c2
      · rename_i ocl odl vs oslc lc
        split at c2
        · rename_i f tf hv
          split at c3
          · rename_i cl cld D csl lcc
            simp only [Bool.and_eq_true, beq_iff_eq] at c3
            obtain ⟨rfl, c5⟩ := c3
            obtain ⟨cdD, hcd⟩ := Option.isSome_iff_exists.mp c5
            exact ⟨cc, _, ⟨⟨oc, od, osl, _, _, _, _, .none, n9, n10, n11, n12, cda, n14, ar, ocl, odl, vs, oslc, f, tf, cl, cld, csl, cdD, rfl, lk, c1, supB_ok sc, ha, hp, lc, hv, c2, lcc, hcd⟩, c4, top, hm⟩, n9, n10, n11, n12, cda, n14, rfl⟩
          · cases c3
        · cases c2
      · cases c2
    · cases c
  · cases c
/-! ### its text -/
def body1 (self f1 : Str) : List Stmt → Bool
  | [.Expr (.Call (.Attribute (.Call (.Name s _) [] [] _) m p2) [.Name a _] [] p3) _, .Assign [.Attribute (.Name b _) f _] (.Name c _) _] => decide (s = "super") && (decide (m = "__init__") && (decide (a = f1) && (decide (b = self) && (decide (f = f1) && (decide (c = f1) && (p2.endLine == p3.line))))))
  | _ => false
def body2 (self f1 f2 : Str) : List Stmt → Bool
  | [.Expr (.Call (.Attribute (.Call (.Name s _) [] [] _) m p2) [.Name a _, .Name a2 _] [] p3) _, .Assign [.Attribute (.Name b _) f _] (.Name c _) _, .Assign [.Attribute (.Name b2 _) g _] (.Name c2 _) _] =>
    decide (s = "super") && (decide (m = "__init__") && (decide (a = f1) && (decide (a2 = f2) && (decide (b = self) && (decide (f = f1) && (decide (c = f1) && (decide (b2 = self) && (decide (g = f2) && (decide (c2 = f2) && (p2.endLine == p3.line))))))))))
  | _ => false
def nms (x : Str) : Bool := !(x == ("__debug__" : Str)) && !(x == ("__classdict__" : Str))
section
variable {CX : CXT} {P : Program} {w : World} {K : PySem.W.Frag} {mg : Str → Option Value} {base : Heap} {k : Nat} {f cc D : Addr} {fd : FuncData} {self f1 f2 : Str} {body : List Stmt}
theorem nms_ok {x : Str} (h : nms x = true) : (x == ("__debug__" : Str)) = false ∧ (x == ("__classdict__" : Str)) = false := by
  unfold nms at h
  simpa using h
theorem init1_of (DS : DefS P K mg f cc D fd [self, f1] body) (h : body1 self f1 body = true) (h1 : nms self = true) (h2 : nms f1 = true) : FnOk P w K mg base CX (k + 1) f fd [self, f1] (spI K D [f1]) := by
  unfold body1 at h
  split at h
  · simp only [Bool.and_eq_true, decide_eq_true_eq] at h
    obtain ⟨rfl, rfl, rfl, rfl, rfl, rfl, hl⟩ := h
    exact init1 hl DS (nms_ok h1).1 (nms_ok h2).1 (nms_ok h1).2 (nms_ok h2).2
  · cases h
theorem init2_of (DS : DefS P K mg f cc D fd [self, f1, f2] body) (h : body2 self f1 f2 body = true) (h1 : nms self = true) (h2 : nms f1 = true) (h3 : nms f2 = true) : FnOk P w K mg base CX (k + 1) f fd [self, f1, f2] (spI K D [f1, f2]) := by
  unfold body2 at h
  split at h
  · simp only [Bool.and_eq_true, decide_eq_true_eq] at h
    obtain ⟨rfl, rfl, rfl, rfl, rfl, rfl, rfl, rfl, rfl, rfl, hl⟩ := h
    exact init2 hl DS (nms_ok h1).1 (nms_ok h2).1 (nms_ok h1).2 (nms_ok h2).2 (nms_ok h3).1 (nms_ok h3).2
  · cases h
end
/-! ### the head's datum -/
structure HeadD where
  fa : List He.Fa
  fn : List He.DefD
  ins : List InD
  errs : List Str
  file : Str
  tup : List (Str × List He.Dv)
/-- the module has no list of its own -/
def noLists (K : PySem.W.Frag) : Bool := K.all fun p => match p.2.cls with
  | .type c => !decide (c = "list")
  | _ => true
abbrev AlX : Type := (Bool × He.AlD) × List FnI
def obsX (d : HeadD) (K : PySem.W.Frag) : AlX := ((noLists K && (d.errs.all (fun c => errB K c) && (d.ins.all (fun i => initB d.file K i.cls) && d.tup.all fun p => He.tupB K p.1 p.2)), He.obsD d.fa d.fn K), d.ins.map fun i => fnI K i.cls)
def valX (d : HeadD) : AlX := ((true, He.valD d.fn), d.ins.map InD.val)
def SaysX (d : HeadD) (K : PySem.W.Frag) : Prop := obsX d K = valX d
def obsXG (n : Nat) (d : HeadD) (g : Addr → Option Obj) : AlX := obsX d (He.frG g (cStatics :: He.asD g n))
def hookX (n : Nat) (d : HeadD) : PySem.W.Hook where
  α := AlX
  obs := fun s => obsXG n d s.heap.get?
  val := fun _ => valX d
  says := fun _ h => ∃ K : PySem.W.Frag, K.In h ∧ SaysX d K
  of := fun _ _ e => ⟨_, He.frG_in, e⟩
  keeps := fun _ _ _ ⟨K, hK, c⟩ k => ⟨K, PySem.W.Frag.In.keeps hK k, c⟩
theorem obsXG_eq {n : Nat} {d : HeadD} {g : Addr → Option Obj} {s : Shared} (h : ∀ a, g a = s.heap.get? a) : obsXG n d g = (hookX n d).obs s := by
  have e : g = s.heap.get? := funext h
  rw [e] <;> rfl
section
variable {d : HeadD} {K : PySem.W.Frag}
theorem SaysX.says (c : SaysX d K) : He.SaysD d.fa d.fn K := congrArg (fun z : AlX => z.1.2) c
theorem SaysX.all (c : SaysX d K) : noLists K = true ∧ (∀ x ∈ d.errs, errB K x = true) ∧ (∀ i ∈ d.ins, initB d.file K i.cls = true) ∧ ∀ p ∈ d.tup, He.tupB K p.1 p.2 = true := by
  have h : (noLists K && (d.errs.all (fun c => errB K c) && (d.ins.all (fun i => initB d.file K i.cls) && d.tup.all fun p => He.tupB K p.1 p.2))) = true := congrArg (fun z : AlX => z.1.1) c
  simp only [Bool.and_eq_true, List.all_eq_true] at h
  exact ⟨h.1, h.2.1, h.2.2.1, h.2.2.2⟩
theorem SaysX.ini (c : SaysX d K) {i : InD} (hi : i ∈ d.ins) : fnI K i.cls = i.val := by
  have h : d.ins.map (fun i => fnI K i.cls) = d.ins.map InD.val := congrArg (fun z : AlX => z.2) c
  exact List.map_inj_left.mp h i hi
theorem mem_lk : ∀ {K : List (Addr × Obj)} {a : Addr} {o : Obj}, K.lookup a = some o → (a, o) ∈ K
  | [], _, _, h => by cases h
  | (b, u) :: r, a, o, h => by
    rw [List.lookup_cons] at h
    split at h
    · rename_i e; cases h; rw [eq_of_beq e]; exact List.mem_cons_self
    · exact List.mem_cons_of_mem _ (mem_lk h)
theorem noLists_ok (h : noLists K = true) {a : Addr} {o : Obj} (e : K.lookup a = some o) : o.cls ≠ .type "list" := fun z => by
  have := List.all_eq_true.mp h (a, o) (mem_lk e)
  simp only [z] at this
  simp at this
/-- an error of one field | of two -/
theorem errG_of {P : Program} {w : World} {mg : Str → Option Value} {base h : Heap} {x : Str} {i : InD} {ar : Arg} {self : Str} (KX : K.In h) (G : h.Ns mainGlobals mg) (c : SaysX d K) (hx : x ∈ d.errs) (hi : i ∈ d.ins) (hcls : i.cls = dOf x) (hf : P.main.file = d.file)
    (sc : supB (self :: fldsOf x) i.scope = true) (ha : (i.params.posonlyargs ++ i.params.args).head? = some ar) (har : ar.arg = self) (top : (P.main.scope.names.lookup ("super" : Str)).isSome = false) (hm : mg "super" = none)
    (hb : ∀ (kV doc pm : Value) (an : Option Addr) (cda : Addr) (ct : Value) (cc : Addr) (us : List Value), us.length = (self :: fldsOf x).length → bindArgs (PySem.W.ksFn "__init__" i.qual i.params i.body i.scope .none kV doc pm an (.ref cda) ct cc) ⟨us, []⟩ = pure ((self :: fldsOf x).zip us))
    (hbody : (match fldsOf x with | [f1] => body1 self f1 i.body && nms f1 | [f1, f2] => body2 self f1 f2 i.body && (nms f1 && nms f2) | _ => false) = true) (hself : nms self = true) : ErrG P w K mg base x := by
  obtain ⟨_, he, hini, _⟩ := c.all
  have hE := he x hx
  have kn := errB_known hE
  have cl := errB_cls hE
  have hE' := hE
  unfold errB at hE'
  simp only [Bool.and_eq_true, decide_eq_true_eq] at hE'
  obtain ⟨h1, h2, h3, h4, h5, h6, h7, h8, h9, h10, h11⟩ := hE'
  obtain ⟨cc, fd, DS, kV, doc, pm, an, cda, ct, hfd⟩ := defS_of (P := P) (ps := self :: fldsOf x) (c.ini hi) (by rw [hf]; exact hini i hi) sc ha (by rw [har]; rfl) top hm
  refine ⟨h2, PySem.W.mg_of KX G h2, kn, iOf K (dOf x), cc, clA K (dOf x), fd, self, cl, fun f hf => of_decide_eq_true (List.all_eq_true.mp h4 f ?_), h10, h11, ?_, ?_⟩
  · have : ∀ f ∈ fldsOf x, f ∈ fldNames := by
      unfold fldsOf fldNames
      repeat (first | split | decide)
    exact this f hf
  · refine .all fun us hl => ?_
    rw [hfd]; exact hb _ _ _ _ _ _ _ us hl
  · rw [← hcls]
    split at hbody
    · rename_i f1 e
      simp only [Bool.and_eq_true] at hbody
      rw [e] at DS ⊢
      exact init1_of DS hbody.1 hself hbody.2
    · rename_i f1 f2 e
      simp only [Bool.and_eq_true] at hbody
      rw [e] at DS ⊢
      exact init2_of DS hbody.1 hself hbody.2.1 hbody.2.2
    · cases hbody
end
end TA
set_option Elab.async false
set_option linter.all false
set_option maxRecDepth 100000
set_option maxHeartbeats 4000000
/-! TA17: the dicts, wherever; a law's end. -/
namespace TA
open PySem PySem.Spec L2 PyProof.Rows
theorem dctEvery : DctEvery := fun X hu hg =>
  have h : X.A.units + 65 < cLine := by omega
  { ix := dd_ix h, it := dd_it, set := dd_set h, inn := dd_in h, nin := dd_nin h
    bi := fun hc b hb => by
      simp only [List.mem_cons, List.not_mem_nil, or_false] at hb
      rcases hb with rfl | rfl | rfl | rfl | rfl
      · exact c_len dd_len
      · exact c_list (dd_list hc)
      · exact dd_dict h hc
      · exact c_sorted hc hu
      · exact c_repr hg hu
    dct0 := dd_dct0, dct1 := fun a b => dd_dct1 h a b, dc := fun a b c d e f g i j => dd_dc h a b c d e f g i j, setDc := fun a b c d e f g i j k l m => dd_setDc h a b c d e f g i j k l m, mt := fun a b c d e f g i => dd_mt h a b c d e f g i, items := fun a b c => dd_items a b c }
/-- the law's call, over data: the script as a list that nobody may change -/
theorem law_callG {P : Program} {w : World} {K : PySem.W.Frag} {mg mb : Str → Option Value} {k : Nat} {fa a : Addr} {fd : FuncData} {x : Str} {sp : DSp} {s₁ : Shared} {vs : List Value} {ns : List Int} (nl : noLists K = true)
    (KX : K.In s₁.heap) (hns : s₁.heap.Ns mainGlobals mg) (hb : s₁.heap.Ns builtinsNs mb) (hbb : ∀ x : Str, x ≠ "__name__" → mb x = bootBuiltins x) (hlim : s₁.heap.NoLimit) (hg : s₁.gens = #[])
    (ha : s₁.heap.get? a = some { cls := .type "list", data := .seq vs.toArray }) (hi : IntsAre vs ns) (hl : ns.length ≤ sizeLine) (hr : Room k callerA)
    (F : ∀ base : Heap, K.In base → base.Ns mainGlobals mg → FnOkG P w K mg base (L2.CX P w) k fa fd [x] (liftSp w K sp)) (hbind : ∀ (s : Shared) (u : Value), BindsTo s fd ⟨[u], []⟩ [(x, u)])
    (hsp : sp [.ref a] (put emp a (.fzl (ns.map .int))) (fun d _ => d = .bl true) noE)
    (hCX : ∀ H e s', L2.CX P w [] H s₁ (fun _ _ _ => False) e s' → False) :
    codeAny (model P w) callerA (.call (.ref fa) ⟨[.ref a], []⟩) (fun r s' => r = .ok (.ret (.bool true)) ∧ OldK s₁.heap s'.heap ∧ s'.os = s₁.os ∧ AllBare s'.gens) s₁ := by
  have rv := vals_ints hi
  have lenV := hi.length
  have hk : K.lookup a = none := by
    cases hk : K.lookup a with
    | none => rfl
    | some o =>
      have e := KX a o hk
      rw [ha] at e
      cases e
      exact absurd rfl (noLists_ok nl hk)
  obtain ⟨H, hH⟩ : ∃ H : Hp, H = fun b => if b = a then some (.frz { cls := .type "list", data := .seq vs.toArray } (.lst (ns.map V.int))) else none := ⟨_, rfl⟩
  have hHa : H a = some (.frz { cls := .type "list", data := .seq vs.toArray } (.lst (ns.map V.int))) := by rw [hH]; exact if_pos rfl
  have hHn : ∀ b, b ≠ a → H b = none := fun b hb => by rw [hH]; exact if_neg hb
  have hok : HOk P w H s₁.heap := fun b u z => by
    by_cases hb : b = a
    · subst hb
      rw [hHa] at z; cases z
      exact ⟨ha, by rw [List.length_map]; exact hl, vs, _, rv, ha⟩
    · rw [hHn b hb] at z; cases z
  have noA : ∀ {b : Addr} {o : Obj} {es : Array DictEntry} {ep : Nat}, s₁.heap.get? b = some o → o.data = .dict es ep → H b = none := fun {b o es ep} e d => by
    by_cases hb : b = a
    · subst hb
      rw [ha] at e; cases e
      have d' : Data.seq vs.toArray _ = Data.dict es ep := d
      cases d'
    · exact hHn b hb
  have nsK : ∀ {b : Addr} {m : Str → Option Value}, s₁.heap.Ns b m → (hidT s₁.heap H).Ns b m := fun {b m} ⟨o, es, ep, e, d, r⟩ => ⟨o, es, ep, hidT_get e (noA e d), d, r⟩
  have hKb : K.In (hidT s₁.heap H) := fun b o e => hidT_get (KX b o e) (hHn b fun z => by subst z; rw [hk] at e; cases e)
  have hM : Mod K mg (hidT s₁.heap H) := ⟨hKb, nsK hns, ⟨mb, nsK hb, hbb⟩, let ⟨mc, h1, h2⟩ := hlim; ⟨mc, nsK h1, h2⟩⟩
  have e0 : Env0 P w K mg (hidT s₁.heap H) callerA [] s₁ H := ⟨rfl, hM, fun b o e => of_hidT e, Nat.le_of_eq (hidT_size _ _), trivial, fun b hb => absurd (show b ∈ ([] : List Addr) from hb) (by simp), hok, .of_eq hg⟩
  have hS : RS w K H (put emp a (.fzl (ns.map .int))) := fun b o e => by
    by_cases hb : b = a
    · subst hb
      rw [put_same] at e; cases e
      refine ⟨_, _, hHa, ?_⟩
      clear hHa hH hok e0 hM hKb nsK noA hHn hsp rv lenV hi hl ha hbind F
      induction ns with
      | nil => exact .nil
      | cons n r ih => exact .cons (rd_int.mpr rfl) ih
    · rw [put_ne hb] at e; cases e
  refine codeAny_mono ((F _ hKb (nsK hns)).run callerA [] s₁ H ⟨[.ref a], []⟩ [.ref a] [.ref a] (fun v _ => v = .bl true) (fun _ _ _ => False) rfl hr e0 (hbind s₁ (.ref a)) (.cons rfl .nil)
    ⟨[.ref a], _, _, _, .cons (rd_ref.mpr rfl) .nil, hS, hsp, fun d S' v H' hd rd _ _ => ?_, fun _ _ _ _ _ _ z => z.elim⟩) fun r s' h => ?_
  · subst hd; exact rd_bl.mp rd
  · cases r with
    | error e => exact (hCX H e s' h).elim
    | ok fl =>
      cases fl with
      | next => exact False.elim h
      | brk => exact False.elim h
      | cont => exact False.elim h
      | ret u =>
        obtain ⟨v, H', os, bare, un, hok', r', q⟩ := h
        have q' : v = .bl true := q
        subst q'
        obtain rfl : u = Value.bool true := r'
        refine ⟨rfl, OldK.of_keep fun b o e => ?_, os, bare⟩
        by_cases hb : b = a
        · subst hb
          have z2 := un.frzs b _ _ hHa
          obtain ⟨e2, _⟩ := hok' b _ z2
          rw [ha] at e; cases e
          exact e2
        · exact un.keep b o e (hHn b hb) (by intro z; exact absurd (show b ∈ ([] : List Addr) from z) (by simp)) (by simp)
/-- a law, from the head's facts -/
theorem walk_ofG {l : PySem.W.OpenLaw} {n k : Nat} {q : Program} {loose : List Str} {XP : (Str → Option Value) → Heap → Prop} {YP : World → Heap → Prop} {d : DefRec} {x : Str}
    (hn : l.most = some n) (hn2 : n ≤ sizeLine) (hdf : d.params.defaults = []) (hr : Room k callerA)
    (F : ∀ (w : World) (mg : Str → Option Value) (fa : Addr) (h : Heap), YP w h → h.Ns mainGlobals mg → mg d.name = some (.ref fa) →
      ∃ (K : PySem.W.Frag) (fd : FuncData) (sp : DSp), K.In h ∧ noLists K = true ∧ (∀ (s : Shared) (u : Value), BindsTo s fd ⟨[u], []⟩ [(x, u)]) ∧
        (∀ (a : Addr) (ns : List Int), ns.length ≤ n → sp [.ref a] (put emp a (.fzl (ns.map .int))) (fun d _ => d = .bl true) noE) ∧
        ∀ base : Heap, K.In base → base.Ns mainGlobals mg → FnOkG l.prog w K mg base (L2.CX l.prog w) k fa fd [x] (liftSp w K sp))
    (hCX : ∀ (w : World) (H : Hp) (s : Shared) (e : Value) (s' : Shared), L2.CX l.prog w [] H s (fun _ _ _ => False) e s' → False) :
    PySem.W.WalkO q loose XP YP l.row.toRowW d [] (fun f vs => PySem.call f vs) := by
  refine Att.attach_call hn hdf fun w s₀ s₁ mg mb fa o pm cd doc a vs ns G Y ho hd hcd hmg hobj hints hlen hg => ?_
  obtain ⟨K, fd, sp, KX, nl, hb, hsp, hF⟩ := F w mg fa _ Y G.T.g hmg
  exact law_callG nl KX G.T.g G.T.b G.T.builtins G.T.nolimit hg hobj hints (Nat.le_trans hlen hn2) hr hF hb (hsp a ns hlen) fun H e s' => hCX w H s₁ e s'
end TA
set_option Elab.async false
set_option linter.all false
set_option maxRecDepth 100000
set_option maxHeartbeats 4000000
/-! TA18: defs of a module, from the head's facts. -/
namespace TA
open PySem PySem.Spec L2 PyProof.Rows
/-! ### facts by their text -/
def faGlo (fa : List He.Fa) (x : Str) : Bool := fa.any fun f => match f with | .glo y => decide (y = x) | _ => false
def faFree (fa : List He.Fa) (x : Str) : Bool := fa.any fun f => match f with | .free y => decide (y = x) | _ => false
def faInt (fa : List He.Fa) (x : Str) (i : Int) : Bool := fa.any fun f => match f with | .int y j => decide (y = x) && decide (j = i) | _ => false
def faStr (fa : List He.Fa) (x z : Str) : Bool := fa.any fun f => match f with | .str y u => decide (y = x) && decide (u = z) | _ => false
/-- data as the head's values -/
def dvD : He.Dv → Option D
  | .non => some .non
  | .bl b => some (.bl b)
  | .int i => some (.int i)
  | .str x => some (.str x)
  | _ => none
def dvDs : List He.Dv → Option (List D)
  | [] => some []
  | x :: r => (dvD x).bind fun a => (dvDs r).map (a :: ·)
mutual
def eqDB : D → D → Bool
  | .non, .non => true
  | .bl a, .bl b => a == b
  | .int a, .int b => decide (a = b)
  | .str a, .str b => decide (a = b)
  | .tup a, .tup b => eqDBs a b
  | _, _ => false
def eqDBs : List D → List D → Bool
  | [], [] => true
  | x :: r, y :: q => eqDB x y && eqDBs r q
  | _, _ => false
end
mutual
theorem eqDB_ok : ∀ {a b : D}, eqDB a b = true → a = b
  | .non, b, h => by cases b <;> first | rfl | cases h
  | .bl a, b, h => by cases b <;> first | (have := eq_of_beq (show (a == _) = true from h); rw [this]) | cases h
  | .int a, b, h => by cases b <;> first | (have := of_decide_eq_true (show decide (a = _) = true from h); rw [this]) | cases h
  | .str a, b, h => by cases b <;> first | (have := of_decide_eq_true (show decide (a = _) = true from h); rw [this]) | cases h
  | .tup a, b, h => by cases b <;> first | (have := eqDBs_ok (show eqDBs a _ = true from h); rw [this]) | cases h
  | .ref a, b, h => by cases b <;> cases h
theorem eqDBs_ok : ∀ {a b : List D}, eqDBs a b = true → a = b
  | [], b, h => by cases b <;> first | rfl | cases h
  | x :: r, b, h => by
    cases b with
    | nil => cases h
    | cons y q =>
      have h : (eqDB x y && eqDBs r q) = true := h
      obtain ⟨h1, h2⟩ := Bool.and_eq_true_iff.mp h
      rw [eqDB_ok h1, eqDBs_ok h2]
end
def constB (d : HeadD) (p : Str × D) : Bool := match p.2 with
  | .int i => faInt d.fa p.1 i
  | .str z => faStr d.fa p.1 z
  | .tup ds => faGlo d.fa p.1 && d.tup.any fun q => decide (q.1 = p.1) && (match dvDs q.2 with | some es => eqDBs es ds | none => false)
  | _ => false
/-- what is known where a module's defs run -/
structure TopF (d : HeadD) (P : Program) (w : World) (K : PySem.W.Frag) (mg : Str → Option Value) (base : Heap) : Prop where
  c : SaysX d K
  kin : K.In base
  ns : base.Ns mainGlobals mg
  errs : ∀ x ∈ d.errs, ErrG P w K mg base x
/-- a def of the module, what it promises -/
def FnAt (P : Program) (w : World) (K : PySem.W.Frag) (mg : Str → Option Value) (base : Heap) (x : Str) (k : Nat) (sp : DSp) : Prop :=
  ∃ (f : Addr) (fd : FuncData) (ps : List Str), FnOkG P w K mg base (L2.CX P w) k f fd ps (liftSp w K sp) ∧ mg x = some (.ref f) ∧ PySem.W.keepIn K (.ref f) = true ∧ Binds K fd ps []
section
variable {d : HeadD} {P : Program} {w : World} {K : PySem.W.Frag} {mg : Str → Option Value} {base : Heap} {C : CC} {Γ : List DSp} {k : Nat}
theorem FnAt.mono {x : Str} {j : Nat} {sp : DSp} (h : FnAt P w K mg base x j sp) (le : j ≤ k) : FnAt P w K mg base x k sp := by
  obtain ⟨f, fd, ps, F, r⟩ := h
  exact ⟨f, fd, ps, F.mono le, r⟩
/-- a weaker promise -/
theorem FnAt.weak {x : Str} {sp sp' : DSp} (h : FnAt P w K mg base x k sp) (m : ∀ ds S Q E, sp' ds S Q E → sp ds S Q E) : FnAt P w K mg base x k sp' := by
  obtain ⟨f, fd, ps, F, r⟩ := h
  refine ⟨f, fd, ps, ⟨fun vs H Q E ⟨ds, S, Pp, Pe, h1, h2, h3, h4⟩ => F.len vs H Q E ⟨ds, S, Pp, Pe, h1, h2, m _ _ _ _ h3, h4⟩, fun A outer s H args us vs Q E g hr e0 hb hv ⟨ds, S, Pp, Pe, h1, h2, h3, h4⟩ => F.run A outer s H args us vs Q E g hr e0 hb hv ⟨ds, S, Pp, Pe, h1, h2, m _ _ _ _ h3, h4⟩⟩, r⟩
/-- nothing is asked of it -/
def noSp : DSp := fun _ _ _ _ => False
/-- callees, in order -/
def FnsAt (P : Program) (w : World) (K : PySem.W.Frag) (mg : Str → Option Value) (base : Heap) (k : Nat) : List Str → List DSp → Prop
  | [], [] => True
  | x :: r, sp :: q => FnAt P w K mg base x k sp ∧ FnsAt P w K mg base k r q
  | _, _ => False
theorem FnsAt.get : ∀ {xs : List Str} {Γ : List DSp}, FnsAt P w K mg base k xs Γ → ∀ (i : Nat) (x : Str), xs[i]? = some x → ∃ sp, Γ[i]? = some sp ∧ FnAt P w K mg base x k sp
  | [], [], _, i, x, h => by simp at h
  | y :: r, sp :: q, ⟨h1, h2⟩, 0, x, h => by simp at h; subst h; exact ⟨sp, rfl, h1⟩
  | y :: r, sp :: q, ⟨h1, h2⟩, i + 1, x, h => by simpa using FnsAt.get h2 i x (by simpa using h)
  | [], _ :: _, h, _, _, _ => h.elim
  | _ :: _, [], h, _, _, _ => h.elim
theorem fact_of {fa : List He.Fa} {fn : List He.DefD} (c : He.SaysD fa fn K) {f : He.Fa} (h : f ∈ fa) : f.ok K = true := by
  have c1 := (He.ba (show ((fa.all fun f => f.ok K) && fn.all fun d => d.ok K) = true from congrArg (fun z : He.AlD => z.1) c)).1
  exact List.all_eq_true.mp c1 f h
theorem TopF.glo (T : TopF d P w K mg base) {x : Str} (h : faGlo d.fa x = true) : mg x = some (.ref (clA K x)) := by
  obtain ⟨f, hf, h⟩ := List.any_eq_true.mp h
  split at h
  · have e := of_decide_eq_true h; subst e
    exact He.glo_ok T.kin T.ns (fact_of T.c.says hf)
  · cases h
theorem TopF.free (T : TopF d P w K mg base) {x : Str} (h : faFree d.fa x = true) : mg x = none := by
  obtain ⟨f, hf, h⟩ := List.any_eq_true.mp h
  split at h
  · have e := of_decide_eq_true h; subst e
    exact He.free_ok T.kin T.ns (fact_of T.c.says hf)
  · cases h
theorem dvDs_ok : ∀ {l : List He.Dv} {ds : List D}, dvDs l = some ds → ∀ H, RDs K H ds (l.map (He.Dv.v K))
  | [], ds, h, H => by simp only [dvDs, Option.some.injEq] at h; subst h; exact .nil
  | x :: r, ds, h, H => by
    simp only [dvDs, Option.bind_eq_some_iff, Option.map_eq_some_iff] at h
    obtain ⟨a, ha, q, hq, rfl⟩ := h
    refine .cons ?_ (dvDs_ok hq H)
    cases x <;> simp only [dvD, Option.some.injEq] at ha <;> first | (subst ha; simp [RD, He.Dv.v]; done) | cases ha
theorem TopF.const (T : TopF d P w K mg base) {x : Str} {v : D} (h : constB d (x, v) = true) : ∃ u z, mg x = some u ∧ RelV z u ∧ ∀ H, RD K H v z := by
  cases v with
  | int n =>
    have h : faInt d.fa x n = true := h
    obtain ⟨f, hf, h⟩ := List.any_eq_true.mp h
    split at h
    · simp only [Bool.and_eq_true, decide_eq_true_eq] at h
      obtain ⟨rfl, rfl⟩ := h
      obtain ⟨t, e⟩ := He.int_ok T.kin T.ns (fact_of T.c.says hf)
      exact ⟨_, .int _, e, ⟨t, rfl⟩, fun H => rd_int.mpr rfl⟩
    · cases h
  | str n =>
    have h : faStr d.fa x n = true := h
    obtain ⟨f, hf, h⟩ := List.any_eq_true.mp h
    split at h
    · simp only [Bool.and_eq_true, decide_eq_true_eq] at h
      obtain ⟨rfl, rfl⟩ := h
      obtain ⟨t, e⟩ := He.str_ok T.kin T.ns (fact_of T.c.says hf)
      exact ⟨_, .str _, e, ⟨t, rfl⟩, fun H => rd_str.mpr rfl⟩
    · cases h
  | tup ds =>
    have h : (faGlo d.fa x && d.tup.any fun q => decide (q.1 = x) && (match dvDs q.2 with | some es => eqDBs es ds | none => false)) = true := h
    simp only [Bool.and_eq_true] at h
    obtain ⟨h1, h2⟩ := h
    obtain ⟨q, hq, h2⟩ := List.any_eq_true.mp h2
    simp only [Bool.and_eq_true, decide_eq_true_eq] at h2
    obtain ⟨h3, h4⟩ := h2
    split at h4
    · rename_i es he
      have e := eqDBs_ok h4; subst e
      have ht := T.c.all.2.2.2 q hq
      rw [h3] at ht
      exact ⟨_, .ref (clA K x), T.glo h1, rfl, fun H => rd_tup.mpr ⟨clA K x, _, rfl, He.tupB_ok ht H, dvDs_ok he H⟩⟩
    · cases h4
  | _ => cases h
theorem glob_of (T : TopF d P w K mg base) (hf : FnsAt P w K mg base k C.fns Γ) (hc : C.consts.all (fun p => constB d p) = true) (hb : biNames.all (fun x => faFree d.fa x) = true) : Glob C Γ P w K mg base k where
  fns := fun i x e => by
    obtain ⟨sp, e1, f, fd, ps, F, r1, r2, r3⟩ := hf.get i x e
    exact ⟨f, fd, ps, sp, e1, F, r1, r2, r3⟩
  consts := fun x v e => T.const (List.all_eq_true.mp hc (x, v) (mem_lkS e))
  bi := fun x hx => T.free (List.all_eq_true.mp hb x hx)
where
  mem_lkS {l : List (Str × D)} {x : Str} {v : D} (h : l.lookup x = some v) : (x, v) ∈ l := PySem.mem_of_lookup h
/-- parameters: nothing but names -/
def okPs (dd : He.DefD) (ps : List Str) : Prop := ∀ (kV doc pm : Value) (an : Option Addr) (cdv ct : Value) (us : List Value), us.length = ps.length → bindArgs (PySem.W.fnOf dd.name dd.qual dd.params dd.body dd.scope .none kV doc pm an cdv ct) ⟨us, []⟩ = pure (ps.zip us)
theorem fnAt_of (T : TopF d P w K mg base) {dd : He.DefD} {x : Str} {ps : List Str} {m : Nat} {ir : ISs} {sp : DSp} (hd : dd ∈ d.fn) (hat : dd.at_ = (x, none)) (hdf : dd.dfl = []) (hkw : dd.kwd = []) (hglo : faGlo d.fa x = true)
    (Sc : C8.scC C.N ps dd.scope = true) (hc : cSs C m dd.scope dd.body = some ir) (two : 2 ≤ k) (hf : FnsAt P w K mg base k C.fns Γ) (hcs : C.consts.all (fun p => constB d p) = true) (hb : biNames.all (fun x => faFree d.fa x) = true) (he : C.errs.all (fun x => decide (x ∈ d.errs)) = true)
    (hp : okPs dd ps) (len : ∀ ds S Q E, sp ds S Q E → ds.length = ps.length) (hk : Keeps Γ C.N.length ir sp) : FnAt P w K mg base x (k + 1) sp := by
  obtain ⟨i, hi⟩ := List.getElem?_of_mem hd
  obtain ⟨fd, F⟩ := T.c.says.def_ i hi
  rw [hat] at F
  have F' : FunD K dd.name dd.qual dd.params dd.body dd.scope [] [] (clA K x) fd := by
    have e1 : dd.dvs K = [] := by unfold He.DefD.dvs; rw [hdf]; rfl
    have e2 : dd.kws K = [] := by unfold He.DefD.kws; rw [hkw]; rfl
    rw [e1, e2] at F; exact F
  exact ⟨_, fd, ps, fn_text dctEvery F' Sc hc two (glob_of T hf hcs hb) (fun c hcm => T.errs c (of_decide_eq_true (List.all_eq_true.mp he c hcm))) len hk, T.glo hglo, F'.kp, F'.bindsN hp⟩
end
end TA
set_option Elab.async false
set_option linter.all false
set_option maxRecDepth 100000
set_option maxHeartbeats 4000000
/-! TK1: an exception in hand: its kinds, told by a def of its own. -/
namespace TA
open PySem PySem.Spec L2 L2H PyProof.Rows
/-- what a class must say, that its instances are asked for their kinds -/
structure IsC (K : PySem.W.Frag) (C : Addr) : Prop where
  cl : (PySem.W.clsIn K C).isSome = true
  ga : PySem.W.findIn K (.ref C) "__getattribute__" = some (some (.builtin "BaseException.__getattribute__"))
  gt : PySem.W.findIn K (.ref C) "__getattr__" = some none
  sb : PySem.W.subIn K (.ref C) (.type "BaseException") = some true
  ca : PySem.W.findIn K (.ref C) "__class__" = some (some (.builtin "object.__class__"))
  gs : PySem.W.specialIn K (.builtin "object.__class__") "__get__" = some (some (.builtin "getset_descriptor.__get__"))
  tk : PySem.W.takesIn K (.builtin "object.__class__") = some true
  mr : PySem.W.mroIn K C (.type "object") = some true
def isCB (K : PySem.W.Frag) (C : Addr) : Bool := (PySem.W.clsIn K C).isSome && (xfB K C && (decide (PySem.W.findIn K (.ref C) "__class__" = some (some (.builtin "object.__class__"))) &&
  (decide (PySem.W.specialIn K (.builtin "object.__class__") "__get__" = some (some (.builtin "getset_descriptor.__get__"))) && (decide (PySem.W.takesIn K (.builtin "object.__class__") = some true) && decide (PySem.W.mroIn K C (.type "object") = some true)))))
theorem isCB_ok {K : PySem.W.Frag} {C : Addr} (h : isCB K C = true) : IsC K C := by
  unfold isCB at h
  simp only [Bool.and_eq_true, decide_eq_true_eq] at h
  obtain ⟨h1, h2, h3, h4, h5, h6⟩ := h
  have x := xfB_ok h2
  exact ⟨h1, x.ga, x.gg, x.exC, h3, h4, h5, h6⟩
/-- isinstance(e, c), e pinned -/
def rIsX (K : PySem.W.Frag) (C a dx : Addr) : List V → Hp → VK → Prop := fun xs H Q => ∃ (gs : List (Str × V)) (c : V) (cv : Value) (b : Bool), H dx = some (.xd gs) ∧ xs = [.ref a, c] ∧ (∀ u, RelV c u → u = cv) ∧ PySem.W.kitOne K (.ref C) cv = some b ∧ Q (.bl b) H
theorem call_isX {X : Cx} {a C dx : Addr} {oe : Obj} (hp : (a, oe) ∈ X.pn) (T : IsC X.K C) (hz : Zc (.ref C) (some dx) oe) (hf : ∃ vs, oe.data = .fields vs) : CallR X (.builtin "isinstance") (rIsX X.K C a dx) := by
  intro pins s σ H xs us Q I r h
  obtain ⟨gs, c, cv, b, hdx, rfl, hcv, e, q⟩ := h
  cases r with
  | cons rx rr =>
    cases rr with
    | cons rt rr =>
      cases rr
      cases rx
      have ec := hcv _ rt
      subst ec
      obtain ⟨hget, _⟩ := I.pin (a, oe) (List.mem_append_left _ hp)
      obtain ⟨vs, hv⟩ := hf
      have hx : ObjOk X.prog X.w H s.heap dx (.xd gs) := I.hok dx _ hdx
      obtain ⟨mA, hns, _⟩ := hx
      obtain ⟨od, ho, _⟩ := lookIn_ns hns
      have J : PySem.W.InstAt s.heap a oe C (some od) := ⟨hget, hz.1, by unfold PySem.W.notCls; rw [hv] <;> rfl, by rw [hz.2]; exact ho⟩
      exact PySem.W.kia_one (PySem.W.kitx_exc T.cl T.ga T.gt T.sb T.ca T.gs T.tk T.mr) I.kIn J e (fun z => nomatch z) fun tk => ⟨.bl b, H, I.kept (t' := tk) fun _ _ z => z, rfl, q⟩
/-! ### a def that is handed the exception -/
/-- what such a def promises: p the exception, H what is known -/
def FnP (P : Program) (w : World) (K : PySem.W.Frag) (mg : Str → Option Value) (base : Heap) (CX : CXT) (k : Nat) (f : Addr) (fd : FuncData) (x : Str) (sp : (Addr × Obj) → Hp → VK → Prop) : Prop :=
  ∀ (A : Around) (outer : List PySem.Env) (s : Shared) (H : Hp) (args : Args) (Q : VK) (p : Addr × Obj), RoomH k A → PinOk outer H s p → Env0 P w K mg base A outer s H → BindsTo s fd args [(x, .ref p.1)] → sp p H Q →
    codeAny (model P w) A (.call (.ref f) args) (CR CX outer P w H s Q fun _ _ _ => False) s
theorem fn_ofP {CX : CXT} {P : Program} {w : World} {K : PySem.W.Frag} {mg : Str → Option Value} {base : Heap} {k : Nat} {f : Addr} {name qual : Str} {params : Arguments} {body : List Stmt} {scope : Scope} {dV kV doc pm cdv ct oc : Value} {an od : Option Addr}
    {osl : Array (Option Value)} {N : List Str} {x : Str} {sp : (Addr × Obj) → Hp → VK → Prop} (lk : K.lookup f = some ⟨oc, od, .func (PySem.W.fnOf name qual params body scope dV kV doc pm an cdv ct), osl⟩) (hcd : PySem.W.codeIn K cdv qual = true) (S : FnScope N [x] scope)
    (hbody : ∀ (A : Around) (outer : List PySem.Env) (s : Shared) (H : Hp) (Q : VK) (p : Addr × Obj), sp p H Q →
      ∃ t, PSs (cxH CX P w K mg base N qual scope f cdv A outer s H (fun _ _ _ => False) p) body t ∧ t { nx := fun _ H' => Q .non H', rt := Q } (L2.start N [.ref p.1]) H) :
    FnP P w K mg base CX (k + 1) f (PySem.W.fnOf name qual params body scope dV kV doc pm an cdv ct) x sp := by
  intro A outer s H args Q p hr hpin e0 hb hsp
  have KX : K.In s.heap := e0.mod.kin.keeps fun b o e => (e0.bs b o e).1
  have lim : s.heap.NoLimit := e0.mod.nolimit.keeps fun b o e => (e0.bs b o e).1
  have hkind : ∀ y ∈ [(x, Value.ref p.1)], scope.names.lookup y.1 = some .local ∨ (scope.names.lookup y.1 = some .cell ∧ ((cellsFrom (s.heap.objs.size + 1) scope.names []).lookup y.1).isSome = true) := fun y hy => by
    obtain rfl := List.mem_singleton.mp hy
    rcases S.par x List.mem_cons_self with q | q
    · exact .inl q
    · exact .inr ⟨q, PySem.W.cellsFrom_some _ _ _ (.inl q)⟩
  refine codeAny_call_function hr.depth (KX _ _ lk) rfl S.co S.gen rfl (PySem.W.codeRec_of KX hcd) (hb _ _ _ _ ?_)
  refine wpAny_newFunctionEnv_cells S.kind hkind fun env he s1 z => ?_
  subst he
  refine ⟨lim.keeps z.toInCall.keep, codeAny_func ?_⟩
  obtain ⟨t, ht, hq⟩ := hbody A outer s H Q p hsp
  have I : Inv (cxH CX P w K mg base N qual scope f cdv A outer s H (fun _ _ _ => False) p) [] (L2.start N [.ref p.1]) H s1 := inv_startH (ps := [x]) S hpin e0 rfl (.cons rfl .nil) z
  refine wpAny_mono (ht.run [] s1 _ H _ I hq) (fun fl s' hs => ?_) fun e s' hs => hs
  cases fl with
  | ret u =>
    obtain ⟨v, σ', H', J, rv, q⟩ := hs
    exact ⟨v, H', J.os, J.bare, J.base, J.hok, rv, q⟩
  | next =>
    obtain ⟨σ', H', J, q⟩ := hs
    exact ⟨V.non, H', J.os, J.bare, J.base, J.hok, rfl, q⟩
  | brk =>
    obtain ⟨_, _, _, q⟩ := hs
    exact False.elim q
  | cont =>
    obtain ⟨_, _, _, q⟩ := hs
    exact False.elim q
end TA
set_option Elab.async false
set_option linter.all false
set_option maxRecDepth 100000
set_option maxHeartbeats 4000000
/-! TK2: the def that tells the kinds of an exception. -/
namespace TA
open PySem PySem.Spec L2 L2H PyProof.Rows
def isE7 : List Str := ["ArgumentError", "PaperError", "TooMany", "CheckError", "TextError", "LogError", "CommandError"]
def isA4 : List Str := ["ArgumentError", "PaperError", "TooMany", "CheckError"]
def isB3 : List Str := ["TextError", "LogError", "CommandError"]
def isV (c : Str) (cs : List Str) : List V := cs.map fun c2 => V.bl (decide (c = c2))
theorem isV_app {c : Str} {a b : List Str} : isV c a ++ isV c b = isV c (a ++ b) := by unfold isV; rw [List.map_append]
/-- isinstance(e, c) -/
def isCall (e c : Str) : Expr → Bool
  | .Call (.Name f _) [.Name a _, .Name b _] [] _ => decide (f = "isinstance") && (decide (a = e) && decide (b = c))
  | _ => false
def isCalls (e : Str) : List Str → List Expr → Bool
  | [], [] => true
  | c :: r, x :: q => isCall e c x && isCalls e r q
  | _, _ => false
def kindsB : List Stmt → Bool
  | [.Assign [.Name y _] (.List es1 _) _, .Return (some (.BinOp (.Name z _) .Add (.List es2 _) _)) _] => decide (y = "plain") && (decide (z = "plain") && (isCalls "e" isA4 es1 && isCalls "e" isB3 es2))
  | _ => false
/-- what the facts must say of all errors -/
structure KindC (K : PySem.W.Frag) : Prop where
  is : ∀ c ∈ errNames, IsC K (clA K c)
  val : ∀ c ∈ errNames, PySem.W.kitOne K (.ref (clA K c)) (.type "ValueError") = some true
  one : ∀ c ∈ errNames, ∀ c2 ∈ isE7, PySem.W.kitOne K (.ref (clA K c)) (.ref (clA K c2)) = some (decide (c = c2))
  glo : ∀ c ∈ errNames, PySem.W.nsIn K mainGlobals c = some (some (.ref (clA K c)))
def kindB (K : PySem.W.Frag) : Bool := errNames.all fun c => isCB K (clA K c) && (decide (PySem.W.kitOne K (.ref (clA K c)) (.type "ValueError") = some true) && ((isE7.all fun c2 => decide (PySem.W.kitOne K (.ref (clA K c)) (.ref (clA K c2)) = some (decide (c = c2)))) && decide (PySem.W.nsIn K mainGlobals c = some (some (.ref (clA K c))))))
theorem kindB_ok {K : PySem.W.Frag} (h : kindB K = true) : KindC K := by
  unfold kindB at h
  simp only [List.all_eq_true, Bool.and_eq_true, decide_eq_true_eq] at h
  exact ⟨fun c hc => isCB_ok (h c hc).1, fun c hc => (h c hc).2.1, fun c hc c2 h2 => (h c hc).2.2.1 c2 h2, fun c hc => (h c hc).2.2.2⟩
section
variable {X : Cx} {a dx : Addr} {oe : Obj} {c : Str} {i : Nat} {e : Str}
/-- in a context: where the exception stands -/
structure PinX (X : Cx) (e : Str) (i : Nat) (a dx : Addr) (oe : Obj) (c : Str) : Prop where
  pn : (a, oe) ∈ X.pn
  kc : KindC X.K
  mem : c ∈ errNames
  z : Zc (.ref (clA X.K c)) (some dx) oe
  f : ∃ vs, oe.data = .fields vs
  N : X.N[i]? = some e
  vis : Vis X.env.scope e
  bad : badNm e = false
  isi : Gl X "isinstance"
  mis : X.mg "isinstance" = none
  cls : ∀ c2 ∈ isE7, X.mg c2 = some (.ref (clA X.K c2))
/-- known: the name is bound to the exception, its dict stands -/
def KnE (i : Nat) (a dx : Addr) (σ : L2.St) (H : Hp) : Prop := σ[i]? = some (some (.ref a)) ∧ ∃ gs : List (Str × V), H dx = some (.xd gs)
theorem pe_isE {x : Expr} {c2 : Str} (P : PinX X e i a dx oe c) (h2 : c2 ∈ isE7) (hg : Gl X c2) (h : isCall e c2 x = true) : PE X x (fun σ H Q => KnE i a dx σ H ∧ Q (.bl (decide (c = c2))) H) ∧ noStar1 x = true := by
  unfold isCall at h
  split at h
  · rename_i f p1 a' p2 b' p3 p4
    simp only [Bool.and_eq_true, decide_eq_true_eq] at h
    obtain ⟨rfl, rfl, rfl⟩ := h
    have hd : (b' == ("__debug__" : Str)) = false := by
      simp only [isE7, List.mem_cons, List.not_mem_nil, or_false] at h2
      rcases h2 with rfl | rfl | rfl | rfl | rfl | rfl | rfl <;> decide
    refine ⟨peW (pe_callB (call_isX P.pn (P.kc.is c P.mem) P.z P.f) P.isi P.mis boot_isinstance (pa_cons (pe_var P.N P.vis (bad_dbg P.bad).1 (bad_dbg P.bad).2.1) (pa_cons (pe_glob (v := .ref (clA X.K b')) hg (P.cls _ h2) rfl hd) pa_nil))) fun σ H Q ⟨⟨h1, gs, h3⟩, q⟩ => ?_, rfl⟩
    exact ⟨.ref a, h1, gs, .ref (clA X.K b'), .ref (clA X.K b'), decide (c = b'), h3, rfl, fun u hu => hu, P.kc.one c P.mem b' h2, q⟩
  · cases h
theorem pa_isE (P : PinX X e i a dx oe c) : ∀ {cs : List Str} {es : List Expr}, (∀ c2 ∈ cs, c2 ∈ isE7 ∧ Gl X c2) → isCalls e cs es = true → PA X es (fun σ H Q => KnE i a dx σ H ∧ Q (isV c cs) H)
  | [], [], _, _ => paW pa_nil fun σ H Q ⟨_, q⟩ => q
  | c2 :: r, x :: q, hc, h => by
    have h : (isCall e c2 x && isCalls e r q) = true := h
    obtain ⟨h1, h2⟩ := Bool.and_eq_true_iff.mp h
    obtain ⟨m, g⟩ := hc c2 List.mem_cons_self
    obtain ⟨p, hs⟩ := pe_isE P m g h1
    exact paW (pa_cons p (pa_isE P (fun c3 h3 => hc c3 (List.mem_cons_of_mem _ h3)) h2) (star_of hs _ _)) fun σ H Q ⟨k, q⟩ => ⟨k, k, q⟩
  | [], _ :: _, _, h => by cases h
  | _ :: _, [], _, h => by cases h
/-- the promise: the kinds, in a new list -/
def spKinds (K : PySem.W.Frag) : (Addr × Obj) → Hp → VK → Prop := fun p H Q => ∃ (c : Str) (dx : Addr) (gs : List (Str × V)), c ∈ errNames ∧ Zc (.ref (clA K c)) (some dx) p.2 ∧ (∃ vs, p.2.data = .fields vs) ∧ H dx = some (.xd gs) ∧
  ∀ p1 p2 p3, H p1 = none → upd H p1 (.lst (isV c isA4)) p2 = none →
    upd (upd H p1 (.lst (isV c isA4))) p2 (.lst (isV c isB3)) p3 = none →
    Q (.ref p3) (upd (upd (upd H p1 (.lst (isV c isA4))) p2 (.lst (isV c isB3))) p3 (.lst (isV c isE7)))
theorem pss_kinds {body : List Stmt} (h : kindsB body = true) (P : PinX X "e" 0 a dx oe c) (hN : X.N.Nodup) (h1 : X.N[1]? = some ("plain" : Str)) (hl : X.env.scope.names.lookup ("plain" : Str) = some .local) (hG : ∀ c2 ∈ isE7, Gl X c2) :
    ∃ t, PSs X body t ∧ ∀ (H : Hp) (σ : L2.St) (Q : VK), σ = [some (.ref a), none] → (∃ gs : List (Str × V), H dx = some (.xd gs)) → (∀ p1 p2 p3, H p1 = none → upd H p1 (.lst (isV c isA4)) p2 = none →
      upd (upd H p1 (.lst (isV c isA4))) p2 (.lst (isV c isB3)) p3 = none →
      Q (.ref p3) (upd (upd (upd H p1 (.lst (isV c isA4))) p2 (.lst (isV c isB3))) p3 (.lst (isV c isE7)))) →
      t { nx := fun _ H' => Q .non H', rt := Q } σ H := by
  unfold kindsB at h
  split at h
  · rename_i y p1 es1 p2 p3 z p4 es2 p5 p6 p7
    simp only [Bool.and_eq_true, decide_eq_true_eq] at h
    obtain ⟨rfl, rfl, h3, h4⟩ := h
    refine ⟨_, pss_cons (ps_set (i := 1) hN h1 (.inl hl) (pe_lst (pa_isE P (fun c2 hc => ?_) h3)) rfl (.inr hl)) (pss_one (ps_ret (pe_op op_cat (pe_var h1 (.inl hl)) (pe_lst (pa_isE P (fun c2 hc => ?_) h4))))), fun H σ Q hσ hgs hQ => ?_⟩
    · have : c2 ∈ isE7 := by
        simp only [isA4, isB3, List.mem_cons, List.not_mem_nil, or_false] at hc
        rcases hc with rfl | rfl | rfl | rfl <;> decide
      exact ⟨this, hG _ this⟩
    · have : c2 ∈ isE7 := by
        simp only [isA4, isB3, List.mem_cons, List.not_mem_nil, or_false] at hc
        rcases hc with rfl | rfl | rfl <;> decide
      exact ⟨this, hG _ this⟩
    · subst hσ
      obtain ⟨gs, hgs⟩ := hgs
      refine ⟨⟨rfl, gs, hgs⟩, by simp [sizeLine_eq, isV, isA4, isB3], fun q1 hq1 => ?_⟩
      have hd1 : dx ≠ q1 := fun e => by subst e; rw [hgs] at hq1; cases hq1
      refine ⟨.ref q1, rfl, ⟨rfl, gs, by rw [upd_ne hd1]; exact hgs⟩, by simp [sizeLine_eq, isV, isA4, isB3], fun q2 hq2 => ?_⟩
      have h12 : q1 ≠ q2 := fun e => by subst e; rw [upd_same] at hq2; cases hq2
      refine ⟨q1, q2, _, _, rfl, rfl, by rw [upd_ne h12]; exact upd_same, upd_same, by simp [sizeLine_eq, isV, isA4, isB3], fun q3 hq3 => ?_⟩
      exact hQ q1 q2 q3 hq1 hq2 hq3
  · cases h
end
end TA
set_option Elab.async false
set_option linter.all false
set_option maxRecDepth 100000
set_option maxHeartbeats 4000000
/-! TK3: the def that tells kinds, called in a suite. -/
namespace TA
open PySem PySem.Spec L2 L2H PyProof.Rows
theorem fnP_kinds {CX : CXT} {P : Program} {w : World} {K : PySem.W.Frag} {mg : Str → Option Value} {base : Heap} {k : Nat} {f : Addr} {x qual : Str} {params : Arguments} {body : List Stmt} {scope : Scope} {fd : FuncData} (F : FunD K x qual params body scope [] [] f fd) (S : FnScope ["e", "plain"] ["e"] scope) (hB : kindsB body = true) (KC : KindC K)
    (mis : mg "isinstance" = none) (cls : ∀ c2 ∈ isE7, mg c2 = some (.ref (clA K c2))) (he : scope.names.lookup ("e" : Str) = some .local) (hl : scope.names.lookup ("plain" : Str) = some .local) (hi : scope.names.lookup ("isinstance" : Str) = some .globalImplicit) (hG : ∀ c2 ∈ isE7, scope.names.lookup c2 = some .globalImplicit) :
    FnP P w K mg base CX (k + 1) f fd "e" (spKinds K) := by
  obtain ⟨oc, od, dV, kV, doc, pm, an, cdv, ct, osl, rfl, lk, hcd, _, _⟩ := F.ex
  refine fn_ofP lk hcd S fun A outer s H Q p ⟨c, dx, gs, hc, hz, hf, hdx, hq⟩ => ?_
  obtain ⟨t, ht, hr⟩ := pss_kinds (X := cxH CX P w K mg base ["e", "plain"] qual scope f cdv A outer s H (fun _ _ _ => False) p) (a := p.1) (dx := dx) (oe := p.2) (c := c) hB
    ⟨List.mem_singleton.mpr rfl, KC, hc, hz, hf, rfl, .inl he, by decide, hi, mis, cls⟩ S.nd rfl hl hG
  exact ⟨t, ht, hr H _ Q rfl ⟨gs, hdx⟩ hq⟩
section
variable {X : Cx} {Γ : List DSp} {a : Addr} {oe : Obj} {pn : List (Addr × Obj)} {i : Nat} {e x : Str} {k : Nat} {f : Addr} {fd : FuncData} {CX : CXT} {sp : (Addr × Obj) → Hp → VK → Prop}
/-- x(e), in the suite that holds e -/
theorem pe_callP {q ep pos : Pos} (F : FnP X.prog X.w X.K X.mg X.base (L2.CX X.prog X.w) k f fd "e" sp) (hr : RoomH k (X.suite a ((a, oe) :: pn)).A) (hg : Gl X x) (hm : X.mg x = some (.ref f)) (hk : PySem.W.keepIn X.K (.ref f) = true) (hb : Binds X.K fd ["e"] [])
    (hN : X.N[i]? = some e) (hv : Vis X.env.scope e) (hd : badNm e = false) (hdb : (x == ("__debug__" : Str)) = false) :
    PE (X.suite a ((a, oe) :: pn)) (.Call (.Name x q) [.Name e ep] [] pos) (fun σ H Q => σ[i]? = some (some (.ref a)) ∧ sp (a, oe) H Q) := by
  refine ⟨fun pins s σ H Q I ⟨h1, h2⟩ => ?_⟩
  refine wpAny_Call_Name_kw (ld_glob I hg hm ?_ hdb)
  have ha : PA (X.suite a ((a, oe) :: pn)) [.Name e ep] (tCons (tVar i) tNil) := pa_cons (pe_var (X := X.suite a ((a, oe) :: pn)) hN hv (bad_dbg hd).1 (bad_dbg hd).2.1) pa_nil
  refine PySem.W.callWith_K (h₀ := X.base) I.ok.mod.kin hk (thn (ha.run pos pins s σ H (fun vs H1 => vs = [.ref a] ∧ sp (a, oe) H1 Q) I ⟨.ref a, h1, rfl, h2⟩) fun us s1 ⟨vs, H1, I1, r, ev, q⟩ => ⟨I1.kIn, ?_⟩) rfl rfl
  subst ev
  cases r with
  | cons ru rr =>
    cases rr
    cases ru
    have b := hb s1 [.ref a] I1.kIn rfl
    have P1 := I1.pin (a, oe) (List.mem_append_left _ List.mem_cons_self)
    have hpin : PinOk X.stack H1 s1 (a, oe) := ⟨P1.1, P1.2.1, fun hm => (List.mem_cons.mp (I1.stkSub a hm)).elim P1.2.2.1 P1.2.2.2.1, P1.2.2.2.2⟩
    refine wpAny_call (codeAny_mono (F _ X.stack s1 H1 ⟨[.ref a], []⟩ Q (a, oe) hr hpin I1.env0 b q) fun r s' hq => ?_)
    cases r with
    | error e =>
      obtain ⟨_, _, _, _, _, _, _, _, _, _, _, _, z⟩ := hq
      exact z.elim
    | ok fl =>
      cases fl with
      | ret u => exact I1.after hq
      | next => exact False.elim hq
      | brk => exact False.elim hq
      | cont => exact False.elim hq
/-- x(e) if isinstance(e, ValueError) else [] -/
def tellB (x e : Str) : Expr → Bool
  | .IfExp (.Call (.Name f _) [.Name a _, .Name b _] [] _) (.Call (.Name g _) [.Name a2 _] [] _) (.List [] _) _ => decide (f = "isinstance") && (decide (a = e) && (decide (b = "ValueError") && (decide (g = x) && decide (a2 = e))))
  | _ => false
def spKD : DSp := fun ds S Q E => ∃ c, ds = [.str c] ∧ ∀ p, S p = none → Q (.ref p) (put S p (.lst (isE7.map fun c2 : Str => .bl (decide (c = c2)))))
theorem rds_is {K : PySem.W.Frag} {H : Hp} (c : Str) : ∀ cs : List Str, RDs K H (cs.map fun c2 => D.bl (decide (c = c2))) (isV c cs)
  | [] => .nil
  | c2 :: r => .cons (rd_bl.mpr rfl) (rds_is c r)
theorem h_tell {y : Expr} {cls : Value} {d : Option Addr} (F : FnP X.prog X.w X.K X.mg X.base (L2.CX X.prog X.w) k f fd "e" (spKinds X.K)) (hr : RoomH k (X.suite a ((a, oe) :: pn)).A) (hg : Gl X x) (hm : X.mg x = some (.ref f)) (hk : PySem.W.keepIn X.K (.ref f) = true) (hb : Binds X.K fd ["e"] [])
    (hN : X.N[i]? = some e) (hv : Vis X.env.scope e) (hd : badNm e = false) (hdb : (x == ("__debug__" : Str)) = false) (KC : KindC X.K) (isi : Gl X "isinstance") (mis : X.mg "isinstance" = none) (ver : Gl X "ValueError") (mve : X.mg "ValueError" = none)
    (hz : Zc cls d oe) (hf : ∃ vs, oe.data = .fields vs) (h1 : Γ[1]? = some spKD) (h : tellB x e y = true) : PE (X.suite a ((a, oe) :: pn)) y (liftH X.w X.K (some i) a cls d fun fs => wpE Γ fs (.fn 1 (.cons (.efld "__class__") .nil))) := by
  unfold tellB at h
  split at h
  · rename_i f1 p1 a1 p2 b1 p3 p4 g1 p5 a2 p6 p7 p8 p9
    simp only [Bool.and_eq_true, decide_eq_true_eq] at h
    obtain ⟨rfl, rfl, rfl, rfl, rfl⟩ := h
    refine ⟨fun pins s σ H Q I ⟨c, gs, hot, σd, S, E, P, rv, rs, hw, hP⟩ => ?_⟩
    obtain ⟨⟨kn, hcls, dx, vs, hdx, hH, hl⟩, hsl⟩ := hot
    subst hcls
    subst hdx
    have hT := call_isX (X := X.suite a ((a, oe) :: pn)) (a := a) (dx := dx) (oe := oe) List.mem_cons_self (KC.is c kn.mem) hz hf
    have pv := pe_var (X := X.suite a ((a, oe) :: pn)) (pos := p2) hN hv (bad_dbg hd).1 (bad_dbg hd).2.1
    have pt := pt_val (pe_callB (p := p1) (pos := p4) hT isi mis boot_isinstance (pa_cons pv (pa_cons (pe_bltn (X := X.suite a ((a, oe) :: pn)) (v := .ty "ValueError") (pos := p3) ver mve boot_ValueError rfl) pa_nil)))
    refine (pe_ifExp (pos := p9) pt (pe_callP (q := p5) (ep := p6) (pos := p7) F hr hg hm hk hb hN hv hd hdb) (pe_lst (pos := p8) pa_nil)).run pins s σ H Q I ?_
    refine ⟨.ref a, hsl i rfl, vs, .ty "ValueError", .type "ValueError", true, hH, rfl, fun u hu => hu, KC.val c kn.mem, ?_⟩
    simp only [wpE, wpEs, gsX, List.lookup_cons, beq_self_eq_true, h1] at hw
    obtain ⟨c', hc', hw⟩ := hw
    simp only [List.cons.injEq, D.str.injEq, and_true] at hc'
    subst hc'
    refine ⟨true, rfl, ?_⟩
    show if true = true then _ else _
    rw [if_pos rfl]
    refine ⟨hsl i rfl, c, dx, vs, kn.mem, hz, hf, hH, fun p1 p2 p3 q1 q2 q3 => ?_⟩
    exact hP _ _ _ _ (hw p3 (((rs.new q1).new q2).free q3)) (by simp only [RD]) (((rs.new q1).new q2).lay q3 ⟨isV c isE7, upd_same, rds_is c isE7⟩) ((ext_new q1).trans ((ext_new q2).trans (ext_lay q3)))
  · cases h
/-- a body: try, the kinds of what it raises, a rest -/
def caughtP : List Stmt → Option (List Stmt × Str × Str × Expr × List Stmt)
  | .Try tb [.ExceptHandler (some (.Name c _)) (some n) [.Return (some y) _] _] [] [] _ :: rest => some (tb, c, n, y, rest)
  | _ => none
theorem pss_caught {C : CC} {sc : Scope} {W : WX} {fs : List (Str × D)} {body tb rest : List Stmt} {c n : Str} {y : Expr} {b r : ISs} {m j : Nat} (G : GoodS C Γ j sc X W) (hp : caughtP body = some (tb, c, n, y, rest)) (hb : cSs C m sc tb = some b) (hr : cSs C m sc rest = some r)
    (hmem : c ∈ errNames) (hglo : PySem.W.nsIn X.K mainGlobals c = some (some (.ref (clA X.K c)))) (hm : X.mg c = some (.ref (clA X.K c))) (hgl : isGl sc c = true) (hi : X.N[i]? = some n) (hln : sc.names.lookup n = some .local)
    (hy : ∀ (a : Addr) (oe : Obj) (cls : Value) (d : Option Addr) (pn : List (Addr × Obj)), Zc cls d oe → (∃ vs, oe.data = .fields vs) → PE (X.suite a ((a, oe) :: pn)) y (liftH X.w X.K (some i) a cls d fun fs => wpE Γ fs (.fn 1 (.cons (.efld "__class__") .nil)))) :
    PSs X body (liftS X.w X.K W (wpSs Γ fs (.cons (.trn b (.cons c (some i) (.cons (.ret (.fn 1 (.cons (.efld "__class__") .nil))) .nil) .nil)) r))) := by
  unfold caughtP at hp
  split at hp
  · cases hp
    obtain ⟨hg, hdb, _, _⟩ := gl_of hgl
    have hN : X.N.Nodup := by rw [G.g.N]; exact G.g.nd
    refine ss_cons (s_trn hN G.stack G.frame G.g.tk (fun W' pn xe tk hp => (oks_all dctEvery m).ss hb (G.tr tk hp)) ?_) ((oks_all dctEvery m).ss hr G)
    exact hds_as hmem hglo hi (by show X.env.scope.names.lookup _ = _; rw [G.g.sc]; exact hln) ⟨G.g.gl hg, hdb, .inl hm⟩ (fun a oe cls d pn hz hf => hs_ret (Y := X.suite a ((a, oe) :: pn)) (r := []) (ss := .nil) (hy a oe cls d pn hz hf)) hds_nil
  · cases hp
end
end TA
set_option Elab.async false
set_option linter.all false
set_option maxRecDepth 100000
set_option maxHeartbeats 4000000
/-! TK4: the head's hook with the kinds of errors; the def that catches by the base. -/
namespace TA
open PySem PySem.Spec L2 PyProof.Rows
abbrev AlY : Type := AlX × Bool
def obsY (d : HeadD) (K : PySem.W.Frag) : AlY := (obsX d K, kindB K)
def valY (d : HeadD) : AlY := (valX d, true)
def SaysY (d : HeadD) (K : PySem.W.Frag) : Prop := obsY d K = valY d
def obsYG (n : Nat) (d : HeadD) (g : Addr → Option Obj) : AlY := obsY d (He.frG g (cStatics :: He.asD g n))
def hookY (n : Nat) (d : HeadD) : PySem.W.Hook where
  α := AlY
  obs := fun s => obsYG n d s.heap.get?
  val := fun _ => valY d
  says := fun _ h => ∃ K : PySem.W.Frag, K.In h ∧ SaysY d K
  of := fun _ _ e => ⟨_, He.frG_in, e⟩
  keeps := fun _ _ _ ⟨K, hK, c⟩ k => ⟨K, PySem.W.Frag.In.keeps hK k, c⟩
theorem obsYG_eq {n : Nat} {d : HeadD} {g : Addr → Option Obj} {s : Shared} (h : ∀ a, g a = s.heap.get? a) : obsYG n d g = (hookY n d).obs s := by
  have e : g = s.heap.get? := funext h
  rw [e] <;> rfl
theorem SaysY.x {d : HeadD} {K : PySem.W.Frag} (c : SaysY d K) : SaysX d K := congrArg (fun z : AlY => z.1) c
theorem SaysY.kind {d : HeadD} {K : PySem.W.Frag} (c : SaysY d K) : KindC K := kindB_ok (congrArg (fun z : AlY => z.2) c)
section
variable {d : HeadD} {P : Program} {w : World} {K : PySem.W.Frag} {mg : Str → Option Value} {base : Heap} {C : CC} {k : Nat}
theorem fun_of (T : TopF d P w K mg base) {dd : He.DefD} {x : Str} (hd : dd ∈ d.fn) (hat : dd.at_ = (x, none)) (hdf : dd.dfl = []) (hkw : dd.kwd = []) : ∃ fd, FunD K dd.name dd.qual dd.params dd.body dd.scope [] [] (clA K x) fd := by
  obtain ⟨i, hi⟩ := List.getElem?_of_mem hd
  obtain ⟨fd, F⟩ := T.c.says.def_ i hi
  rw [hat] at F
  have e1 : dd.dvs K = [] := by unfold He.DefD.dvs; rw [hdf]; rfl
  have e2 : dd.kws K = [] := by unfold He.DefD.kws; rw [hkw]; rfl
  rw [e1, e2] at F
  exact ⟨fd, F⟩
theorem Glob.more {Γ Γ' : List DSp} (g : Glob C Γ P w K mg base k) : Glob C (Γ ++ Γ') P w K mg base k where
  fns := fun i x e => by
    obtain ⟨f, fd, ps, sp, e1, r⟩ := g.fns i x e
    obtain ⟨hl, _⟩ := List.getElem?_eq_some_iff.mp e1
    exact ⟨f, fd, ps, sp, by rw [List.getElem?_append_left hl]; exact e1, r⟩
  consts := g.consts
  bi := g.bi
theorem mg_cls (T : TopF d P w K mg base) (KC : KindC K) {c : Str} (h : c ∈ errNames) : mg c = some (.ref (clA K c)) := PySem.W.mg_of T.kin T.ns (KC.glo c h)
theorem e7_err {c : Str} (h : c ∈ isE7) : c ∈ errNames := by
  simp only [isE7, List.mem_cons, List.not_mem_nil, or_false] at h
  rcases h with rfl | rfl | rfl | rfl | rfl | rfl | rfl <;> decide
theorem roomH_mark {A : Around} {v : Option Value} (two : 2 ≤ k) (r : Room k A) : L2H.RoomH 1 (A.mark v) := by
  have h1 := r.dp
  have h2 := r.un
  have e1 : (A.mark v).depth = A.depth := rfl
  have e2 : (A.mark v).units = A.units := by first | rfl | exact Around.mark_units
  exact ⟨by rw [e1]; omega, by rw [e2]; omega⟩
/-- the def that is caught by the base -/
theorem fnAt_caught (T : TopF d P w K mg base) (KC : KindC K) {dk dc : He.DefD} {xk xr xc n : Str} {ps : List Str} {i m : Nat} {tb rest : List Stmt} {y : Expr} {b r : ISs} {spR sp : DSp}
    (hdk : dk ∈ d.fn) (hatk : dk.at_ = (xk, none)) (hdfk : dk.dfl = []) (hkwk : dk.kwd = []) (hglk : faGlo d.fa xk = true) (Sk : C8.scC ["e", "plain"] ["e"] dk.scope = true) (hB : kindsB dk.body = true) (hpk : okPs dk ["e"])
    (hke : dk.scope.names.lookup ("e" : Str) = some .local) (hkl : dk.scope.names.lookup ("plain" : Str) = some .local) (hki : dk.scope.names.lookup ("isinstance" : Str) = some .globalImplicit) (hkG : (isE7.all fun c2 => decide (dk.scope.names.lookup c2 = some .globalImplicit)) = true)
    (hdc : dc ∈ d.fn) (hatc : dc.at_ = (xc, none)) (hdfc : dc.dfl = []) (hkwc : dc.kwd = []) (hglc : faGlo d.fa xc = true) (Sc : C8.scC C.N ps dc.scope = true) (hpc : okPs dc ps)
    (hcc : caughtP dc.body = some (tb, ("TreeError" : Str), n, y, rest)) (hb : cSs C m dc.scope tb = some b) (hr : cSs C m dc.scope rest = some r) (hfn : C.fns = [xr]) (hco : C.consts = []) (her : C.errs = []) (two : 2 ≤ k) (hR : FnAt P w K mg base xr k spR) (hbi : biNames.all (fun x => faFree d.fa x) = true)
    (fi : faFree d.fa "isinstance" = true) (fv : faFree d.fa "ValueError" = true) (hi : C.N[i]? = some n) (hln : dc.scope.names.lookup n = some .local) (hbn : badNm n = false) (hgT : isGl dc.scope "TreeError" = true) (hgi : dc.scope.names.lookup ("isinstance" : Str) = some .globalImplicit)
    (hgv : dc.scope.names.lookup ("ValueError" : Str) = some .globalImplicit) (hgk : dc.scope.names.lookup xk = some .globalImplicit) (hdb : (xk == ("__debug__" : Str)) = false) (hte : tellB xk n y = true) (len : ∀ ds S Q E, sp ds S Q E → ds.length = ps.length)
    (hk : Keeps [spR, spKD] C.N.length (.cons (.trn b (.cons "TreeError" (some i) (.cons (.ret (.fn 1 (.cons (.efld "__class__") .nil))) .nil) .nil)) r) sp) : FnAt P w K mg base xc (k + 1) sp := by
  obtain ⟨fdk, Fk⟩ := fun_of T hdk hatk hdfk hkwk
  obtain ⟨fdc, Fc⟩ := fun_of T hdc hatc hdfc hkwc
  have hg : Glob C [spR, spKD] P w K mg base k := by
    have g0 : Glob C [spR] P w K mg base k := glob_of T (show FnsAt P w K mg base k C.fns [spR] by rw [hfn]; exact ⟨hR, trivial⟩) (by rw [hco]; rfl) hbi
    exact g0.more (Γ' := [spKD])
  have FP := fnP_kinds (P := P) (w := w) (mg := mg) (base := base) (CX := L2.CX P w) (k := 0) Fk (C8.fnScope_by Sk) hB KC (T.free fi) (fun c2 h2 => mg_cls T KC (e7_err h2)) hke hkl hki (fun c2 h2 => of_decide_eq_true (List.all_eq_true.mp hkG c2 h2))
  refine ⟨_, fdc, ps, fn_ta Fc (C8.fnScope_by Sc) len (fun cdv A outer s H E hG hrm => ?_) hk, T.glo hglc, Fc.kp, Fc.bindsN hpc⟩
  have G := good_cx (C := C) (Γ := [spR, spKD]) (P := P) (w := w) (K := K) (mg := mg) (base := base) (qual := dc.qual) (f := clA K xc) (cd := cdv) (outer := outer) (H := H) (E := E) (C8.fnScope_by Sc) two hG hrm hg (fun c hc => by rw [her] at hc; cases hc)
  refine pss_caught (i := i) G hcc hb hr (by decide) (KC.glo _ (by decide)) (mg_cls T KC (by decide)) hgT hi hln fun a oe cls dd pn hz hf => ?_
  exact h_tell FP (roomH_mark two hrm) hgk (T.glo hglk) Fk.kp (Fk.bindsN hpk) hi (.inl hln) hbn hdb KC hgi (T.free fi) hgv (T.free fv) hz hf rfl hte
end
end TA
set_option Elab.async false
set_option linter.all false
set_option maxRecDepth 100000
/-! the defs as the small language, printed by genti.py. -/
namespace TA
open PySem PySem.Spec
def cc_law_draws : CC := ⟨[("script" : Str), ("draws" : Str), ("cell" : Str), ("rest" : Str), ("k" : Str), ("mixed" : Str)], [], [], []⟩
def ir_law_draws : ISs := .cons (.asg (.nam 1) (.lst .nil)) (.cons (.frr (.nam 2) (.ev (.slc (.var 0) (.con .non) (.con (.int 63)))) (.cons (.asg (.nam 3) (.bi .abs (.cons (.var 2) .nil))) (.cons (.iff (.cmp .GtE (.var 3) (.bin .Pow (.con (.int 10)) (.con (.int 18)))) (.cons (.frr (.nam 4) (.rng (.cons (.con (.int 60)) .nil)) (.cons (.iff (.cmp .Gt (.var 3) (.con (.int 0))) (.cons (.ex (.mt .append (.var 1) (.cons (.bin .Mod (.bi .int (.cons (.var 3) .nil)) (.con (.int 1009))) .nil))) (.cons (.asg (.nam 3) (.bin .FloorDiv (.var 3) (.con (.int 1009)))) .nil)) .nil) .nil)) .nil) (.cons (.asg (.nam 5) (.bin .Mod (.bi .int (.cons (.bin .Add (.bin .Mult (.var 3) (.con (.int 48271))) (.con (.int 11))) .nil)) (.con (.int 2147483647)))) (.cons (.frr (.nam 4) (.rng (.cons (.con (.int 12)) .nil)) (.cons (.asg (.nam 5) (.bin .Mod (.bi .int (.cons (.bin .Add (.bin .Add (.bin .Mult (.var 5) (.con (.int 16807))) (.bin .Mult (.con (.int 69621)) (.var 4))) (.con (.int 5))) .nil)) (.con (.int 2147483629)))) (.cons (.ex (.mt .append (.var 1) (.cons (.bin .FloorDiv (.var 5) (.con (.int 1009))) .nil))) .nil))) .nil))) .nil))) (.cons (.ret (.var 1)) .nil))
def cc_law_more : CC := ⟨[("draws" : Str), ("place" : Str), ("mixed" : Str), ("k" : Str)], [], [], []⟩
def ir_law_more : ISs := .cons (.asg (.nam 2) (.bin .Mod (.bi .int (.cons (.bin .Add (.bin .Add (.bin .Mult (.var 1) (.con (.int 48271))) (.bi .len (.cons (.var 0) .nil))) (.con (.int 11))) .nil)) (.con (.int 2147483629)))) (.cons (.frr (.nam 3) (.rng (.cons (.con (.int 3)) .nil)) (.cons (.iff (.tr (.var 0)) (.cons (.asg (.nam 2) (.bin .Add (.var 2) (.idx (.var 0) (.bin .Mod (.bi .int (.cons (.bin .Add (.bin .Mult (.var 1) (.bin .Add (.var 3) (.con (.int 5)))) (.var 3)) .nil)) (.bi .len (.cons (.var 0) .nil)))))) .nil) .nil) (.cons (.asg (.nam 2) (.bin .Mod (.bi .int (.cons (.bin .Add (.bin .Add (.bin .Mult (.var 2) (.con (.int 16807))) (.bin .Mult (.con (.int 69621)) (.var 3))) (.con (.int 5))) .nil)) (.con (.int 2147483629)))) .nil))) (.cons (.ret (.bin .FloorDiv (.var 2) (.con (.int 1009)))) .nil))
def cc_law_take : CC := ⟨[("draws" : Str), ("at" : Str), ("many" : Str), ("place" : Str)], [("_law_more" : Str)], [], []⟩
def ir_law_take : ISs := .cons (.asg (.nam 3) (.idx (.var 1) (.con (.int 0)))) (.cons (.asub (.var 1) (.con (.int 0)) (.bin .Add (.var 3) (.con (.int 1)))) (.cons (.ret (.bin .Mod (.bi .int (.cons (.ite (.cmp .Lt (.var 3) (.bi .len (.cons (.var 0) .nil))) (.idx (.var 0) (.var 3)) (.fn 0 (.cons (.var 0) (.cons (.var 3) .nil)))) .nil)) (.var 2))) .nil))
def cc_law_one : CC := ⟨[("rows" : Str), ("draws" : Str), ("at" : Str)], [("_law_take" : Str)], [], []⟩
def ir_law_one : ISs := .cons (.ret (.idx (.var 0) (.fn 0 (.cons (.var 1) (.cons (.var 2) (.cons (.bi .len (.cons (.var 0) .nil)) .nil)))))) .nil
def cc_law_limits_right : CC := ⟨[("told" : Str), ("due" : Str)], [], [(("MAX_NAME" : Str), .int (12)), (("MAX_NODES" : Str), .int (60)), (("MAX_DEEP" : Str), .int (12)), (("MAX_PATTERN" : Str), .int (10)), (("MAX_COUNT" : Str), .int (3)), (("MAX_WATCHED" : Str), .int (6)), (("MAX_LABELS" : Str), .int (6)), (("MAX_CASES" : Str), .int (1000)), (("MAX_BOUNDS" : Str), .int (8)), (("MAX_CONTENT" : Str), .int (24)), (("MAX_ROW" : Str), .int (6)), (("MAX_CHANGES" : Str), .int (40)), (("MAX_FIELDS" : Str), .int (4)), (("MAX_KEYS" : Str), .int (8)), (("MAX_STEPS" : Str), .int (8)), (("MAX_NESTED" : Str), .int (30)), (("MAX_TEXT" : Str), .int (4000)), (("MAX_RULES" : Str), .int (8)), (("MAX_TREES" : Str), .int (8)), (("MAX_LEARNT" : Str), .int (400)), (("MAX_LINES" : Str), .int (100)), (("MAX_VIEWS" : Str), .int (6)), (("MAX_COUNTED" : Str), .int (12)), (("MAX_JOINED" : Str), .int (16)), (("MAX_PACK" : Str), .int (8)), (("MAX_REWRITTEN" : Str), .int (60)), (("MAX_WALKED" : Str), .int (300)), (("MAX_WEIGHT" : Str), .int (1000000)), (("MAX_COLUMNS" : Str), .int (3)), (("MAX_TIES" : Str), .int (6)), (("MAX_TABLE" : Str), .int (4000))], []⟩
def ir_law_limits_right : ISs := .cons (.asg (.nam 0) (.lst (.cons (.con (.int 12)) (.cons (.con (.int 60)) (.cons (.con (.int 12)) (.cons (.con (.int 10)) (.cons (.con (.int 3)) (.cons (.con (.int 6)) (.cons (.con (.int 6)) (.cons (.con (.int 1000)) (.cons (.con (.int 8)) .nil))))))))))) (.cons (.asg (.nam 0) (.bin .Add (.var 0) (.lst (.cons (.con (.int 24)) (.cons (.con (.int 6)) (.cons (.con (.int 40)) (.cons (.con (.int 4)) (.cons (.con (.int 8)) (.cons (.con (.int 8)) (.cons (.con (.int 30)) (.cons (.con (.int 4000)) (.cons (.con (.int 8)) .nil)))))))))))) (.cons (.asg (.nam 0) (.bin .Add (.var 0) (.lst (.cons (.con (.int 8)) (.cons (.con (.int 400)) (.cons (.con (.int 100)) (.cons (.con (.int 6)) (.cons (.con (.int 12)) (.cons (.con (.int 16)) (.cons (.con (.int 8)) (.cons (.con (.int 60)) (.cons (.con (.int 300)) .nil)))))))))))) (.cons (.asg (.nam 0) (.bin .Add (.var 0) (.lst (.cons (.con (.int 1000000)) (.cons (.con (.int 3)) (.cons (.con (.int 6)) (.cons (.con (.int 4000)) .nil))))))) (.cons (.asg (.nam 1) (.lst (.cons (.con (.int 12)) (.cons (.con (.int 60)) (.cons (.con (.int 12)) (.cons (.con (.int 10)) (.cons (.con (.int 3)) (.cons (.con (.int 6)) (.cons (.con (.int 6)) (.cons (.con (.int 1000)) (.cons (.con (.int 8)) (.cons (.con (.int 24)) (.cons (.con (.int 6)) (.cons (.con (.int 40)) (.cons (.con (.int 4)) (.cons (.con (.int 8)) (.cons (.con (.int 8)) (.cons (.con (.int 30)) (.cons (.con (.int 4000)) (.cons (.con (.int 8)) (.cons (.con (.int 8)) (.cons (.con (.int 400)) (.cons (.con (.int 100)) (.cons (.con (.int 6)) .nil)))))))))))))))))))))))) (.cons (.asg (.nam 1) (.bin .Add (.var 1) (.lst (.cons (.con (.int 12)) (.cons (.con (.int 16)) (.cons (.con (.int 8)) (.cons (.con (.int 60)) (.cons (.con (.int 300)) (.cons (.con (.int 1000000)) (.cons (.con (.int 3)) (.cons (.con (.int 6)) (.cons (.con (.int 4000)) .nil)))))))))))) (.cons (.ret (.cmp .Eq (.bi .repr (.cons (.var 0) .nil)) (.bi .repr (.cons (.var 1) .nil)))) .nil))))))
def cc_law_raise : CC := ⟨[("k" : Str), ("one" : Str), ("other" : Str)], [], [], [("CommandError" : Str), ("ArgumentError" : Str), ("PaperError" : Str), ("TooMany" : Str), ("CheckError" : Str), ("TextError" : Str), ("LogError" : Str)]⟩
def ir_law_raise : ISs := .cons (.iff (.cmp .Eq (.var 0) (.con (.int 0))) (.cons (.rse "ArgumentError" (.cons (.var 1) .nil)) .nil) .nil) (.cons (.iff (.cmp .Eq (.var 0) (.con (.int 1))) (.cons (.rse "PaperError" (.cons (.var 1) .nil)) .nil) .nil) (.cons (.iff (.cmp .Eq (.var 0) (.con (.int 2))) (.cons (.rse "TooMany" (.cons (.var 1) .nil)) .nil) .nil) (.cons (.iff (.cmp .Eq (.var 0) (.con (.int 3))) (.cons (.rse "CheckError" (.cons (.var 1) .nil)) .nil) .nil) (.cons (.iff (.cmp .Eq (.var 0) (.con (.int 4))) (.cons (.rse "TextError" (.cons (.var 1) .nil)) .nil) .nil) (.cons (.iff (.cmp .Eq (.var 0) (.con (.int 5))) (.cons (.rse "LogError" (.cons (.var 1) (.cons (.var 2) .nil))) .nil) .nil) (.cons (.rse "CommandError" (.cons (.var 1) .nil)) .nil))))))
def cc_law_caught : CC := ⟨[("k" : Str), ("one" : Str), ("other" : Str), ("e" : Str)], [("_law_raise" : Str)], [], []⟩
def cc_law_fields : CC := ⟨[("k" : Str), ("one" : Str), ("other" : Str), ("e" : Str)], [("_law_raise" : Str)], [], [("ArgumentError" : Str), ("PaperError" : Str), ("TooMany" : Str), ("CheckError" : Str), ("TextError" : Str), ("LogError" : Str), ("CommandError" : Str)]⟩
def ir_law_fields : ISs := .cons (.trn (.cons (.ex (.fn 0 (.cons (.var 0) (.cons (.var 1) (.cons (.var 2) .nil))))) .nil) (.cons "ArgumentError" (some 3) (.cons (.ret (.tup (.cons (.efld "reason") .nil))) .nil) (.cons "PaperError" (some 3) (.cons (.ret (.tup (.cons (.efld "reason") .nil))) .nil) (.cons "TooMany" (some 3) (.cons (.ret (.tup (.cons (.efld "reason") .nil))) .nil) (.cons "CheckError" (some 3) (.cons (.ret (.tup (.cons (.efld "reason") .nil))) .nil) (.cons "TextError" (some 3) (.cons (.ret (.tup (.cons (.efld "at") .nil))) .nil) (.cons "LogError" (some 3) (.cons (.ret (.tup (.cons (.efld "number") (.cons (.efld "reason") .nil)))) .nil) (.cons "CommandError" (some 3) (.cons (.ret (.tup (.cons (.efld "line") .nil))) .nil) .nil)))))))) (.cons (.ret (.con .non)) .nil)
def cc_law : CC := ⟨[("script" : Str), ("draws" : Str), ("at" : Str), ("values" : Str), ("k" : Str), ("one" : Str), ("other" : Str), ("j" : Str)], [("_law_draws" : Str), ("_law_limits_right" : Str), ("_law_one" : Str), ("_law_caught" : Str), ("_law_fields" : Str)], [], []⟩
def ir_law : ISs := .cons (.asg (.nam 1) (.fn 0 (.cons (.var 0) .nil))) (.cons (.asg (.nam 2) (.lst (.cons (.con (.int 0)) .nil))) (.cons (.iff (.nt (.tr (.fn 1 .nil))) (.cons (.ret (.con (.bl false))) .nil) .nil) (.cons (.asg (.nam 3) (.lst (.cons (.con (.str "word")) (.cons (.con (.str "")) (.cons (.con (.str "form")) (.cons (.con (.int 0)) (.cons (.con (.int 17)) (.cons (.neg (.con (.int 3))) (.cons (.con .non) (.cons (.tup (.cons (.con (.str "a")) (.cons (.con (.int 5)) .nil))) (.cons (.con (.str "a line")) (.cons (.con (.bl true)) .nil)))))))))))) (.cons (.frr (.nam 4) (.rng (.cons (.con (.int 7)) .nil)) (.cons (.asg (.tup (.cons (.nam 5) (.cons (.nam 6) .nil))) (.tup (.cons (.fn 2 (.cons (.var 3) (.cons (.var 1) (.cons (.var 2) .nil)))) (.cons (.fn 2 (.cons (.var 3) (.cons (.var 1) (.cons (.var 2) .nil)))) .nil)))) (.cons (.iff (.cmp .NotEq (.fn 3 (.cons (.var 4) (.cons (.var 5) (.cons (.var 6) .nil)))) (.lc [7] (.nam 7) (.rng (.cons (.con (.int 7)) .nil)) .yes (.cmp .Eq (.var 7) (.var 4)))) (.cons (.ret (.con (.bl false))) .nil) .nil) (.cons (.iff (.cmp .NotEq (.bi .repr (.cons (.fn 4 (.cons (.var 4) (.cons (.var 5) (.cons (.var 6) .nil)))) .nil)) (.bi .repr (.cons (.ite (.cmp .Eq (.var 4) (.con (.int 5))) (.tup (.cons (.var 5) (.cons (.var 6) .nil))) (.tup (.cons (.var 5) .nil))) .nil))) (.cons (.ret (.con (.bl false))) .nil) .nil) .nil)))) (.cons (.ret (.con (.bl true))) .nil)))))
end TA
set_option Elab.async false
set_option linter.all false
set_option maxRecDepth 100000
set_option maxHeartbeats 2000000
/-! TP1: tools for what bodies compute. -/
namespace TA
open PySem PySem.Spec
/-! ### a body keeps a promise -/
theorem keeps_sub {Γ : List DSp} {n : Nat} {ir : ISs} {sp : DSp} (h : ∀ ds S Q E, sp ds S Q E → body Γ n ir ds S (fun d S' => ∃ S2, Sub S2 S' ∧ Q d S2) (fun c fs S' => ∃ S2, Sub S2 S' ∧ E c fs S2)) : Keeps Γ n ir sp :=
  fun ds S Q E hs => ⟨S, _, _, .refl, h ds S Q E hs, fun d S' ⟨S2, sb, q⟩ _ => ⟨S2, fun a o e => .inl (sb a o e), q⟩, fun c gs S' ⟨S2, sb, q⟩ _ => ⟨S2, fun a o e => .inl (sb a o e), q⟩⟩
/-! ### walks -/
theorem loopD_ind {chk : Sto → Prop} {tgt : D → Env → (Env → Prop) → Prop} {body : Ks → Env → Sto → Prop} {K : Ks} (I : List D → Env → Sto → Prop) (hc : ∀ r σ S, I r σ S → chk S)
    (hs : ∀ x r σ S (nx : Env → Sto → Prop), I (x :: r) σ S → (∀ σ' S', I r σ' S' → nx σ' S') → tgt x σ fun σ1 => body { K with nx := nx, ct := nx, bk := K.nx } σ1 S) (he : ∀ σ S, I [] σ S → K.nx σ S) :
    ∀ items σ S, I items σ S → loopD chk tgt body items K σ S
  | [], σ, S, h => ⟨hc _ _ _ h, he _ _ h⟩
  | x :: r, σ, S, h => ⟨hc _ _ _ h, hs x r σ S _ h fun σ' S' h' => loopD_ind I hc hs he r σ' S' h'⟩
theorem lcD_ind {chk : Sto → Prop} {tgt : D → (Env → Prop) → Prop} {test : Env → Sto → BK → Prop} {elt : Env → Sto → List D → LK → Prop} {Q : LK} (I : List D → List D → Sto → Prop) (hc : ∀ r acc S, I r acc S → chk S)
    (hs : ∀ x r acc S (K : LK), I (x :: r) acc S → (∀ acc' S', I r acc' S' → K acc' S') → tgt x fun σ1 => test σ1 S fun b S1 => if b = true then elt σ1 S1 acc K else K acc S1) (he : ∀ acc S, I [] acc S → Q acc S) :
    ∀ items acc S, I items acc S → lcD chk tgt test elt items acc S Q
  | [], acc, S, h => ⟨hc _ _ _ h, he _ _ h⟩
  | x :: r, acc, S, h => ⟨hc _ _ _ h, by
      have := hs x r acc S (fun acc' S' => lcD chk tgt test elt r acc' S' Q) h fun acc' S' h' => lcD_ind I hc hs he r acc' S' h'
      exact this⟩
theorem lcD_map {chk : Sto → Prop} {tgt : D → (Env → Prop) → Prop} {test : Env → Sto → BK → Prop} {elt : Env → Sto → List D → LK → Prop} {Q : LK} {S : Sto} (f : D → D) (hc : chk S) : ∀ (items acc : List D), (∀ x ∈ items, ∀ (acc : List D) (K : LK), K (acc ++ [f x]) S → tgt x fun σ1 => test σ1 S fun b S1 => if b = true then elt σ1 S1 acc K else K acc S1) →
    Q (acc ++ items.map f) S → lcD chk tgt test elt items acc S Q
  | [], acc, _, hQ => ⟨hc, by simpa using hQ⟩
  | x :: r, acc, h, hQ => ⟨hc, h x List.mem_cons_self acc _ (lcD_map f hc r (acc ++ [f x]) (fun y hy => h y (List.mem_cons_of_mem _ hy)) (by simpa using hQ))⟩
theorem lcD_filt {chk : Sto → Prop} {tgt : D → (Env → Prop) → Prop} {test : Env → Sto → BK → Prop} {elt : Env → Sto → List D → LK → Prop} {Q : LK} {S : Sto} (p : D → Bool) (f : D → D) (hc : chk S) : ∀ (items acc : List D), (∀ x ∈ items, ∀ (acc : List D) (K : LK), K (if p x = true then acc ++ [f x] else acc) S → tgt x fun σ1 => test σ1 S fun b S1 => if b = true then elt σ1 S1 acc K else K acc S1) →
    Q (acc ++ (items.filter p).map f) S → lcD chk tgt test elt items acc S Q
  | [], acc, _, hQ => ⟨hc, by simpa using hQ⟩
  | x :: r, acc, h, hQ => ⟨hc, h x List.mem_cons_self acc _ (lcD_filt p f hc r _ (fun y hy => h y (List.mem_cons_of_mem _ hy)) (by
      by_cases e : p x = true
      · rw [if_pos e]; simpa [List.filter_cons, e] using hQ
      · rw [if_neg e]; simpa [List.filter_cons, e] using hQ))⟩
/-! ### stores -/
theorem put_old {S : Sto} {p q : Addr} {o u : SO} (hp : S p = none) (hq : S q = some u) : put S p o q = some u := by
  rw [put_ne (fun e => by subst e; rw [hp] at hq; cases hq)]; exact hq
theorem ne_of_sto {S : Sto} {p q : Addr} {u : SO} (hp : S p = none) (hq : S q = some u) : p ≠ q := fun e => by subst e; rw [hp] at hq; cases hq
theorem put_self {S : Sto} {a : Addr} {o : SO} (h : S a = some o) : put S a o = S := by
  funext b
  by_cases e : b = a
  · subst e; rw [put_same, h]
  · rw [put_ne e]
theorem put_comm {S : Sto} {a b : Addr} {o u : SO} (h : a ≠ b) : put (put S a o) b u = put (put S b u) a o := by
  funext c
  unfold put
  by_cases h1 : c = a <;> by_cases h2 : c = b <;> simp [h1, h2]
  · subst h1; exact absurd h2 h
  · intro e; exact absurd e h
  · intro e; exact absurd e.symm h
/-- both written alike -/
theorem Sub.wr {S S' : Sto} (h : Sub S S') {a : Addr} {o : SO} : Sub (TA.put S a o) (TA.put S' a o) := fun b u e => by
  by_cases q : b = a
  · subst q; rw [put_same] at e ⊢; exact e
  · rw [put_ne q] at e ⊢; exact h b u e
/-! ### ints of a list -/
def iL (ns : List Int) : List D := ns.map .int
theorem iL_get {ns : List Int} {i : Nat} {n : Int} (h : ns[i]? = some n) : (iL ns)[i]? = some (.int n) := by simp [iL, h]
theorem ixD_nat {α : Type} {xs : List α} {i : Nat} : ixD xs (i : Int) = xs[i]? := by
  unfold ixD; rw [if_pos (by omega)]; rfl
theorem rng_nat (n : Nat) : rngs 0 (n : Int) = (List.range n).map fun (k : Nat) => D.int k := by
  unfold rngs; simp
end TA
set_option Elab.async false
set_option linter.all false
set_option maxRecDepth 100000
set_option maxHeartbeats 2000000
/-! TP1b: what bodies compute, step by step: rewriting lemmas. -/
namespace TA
open PySem PySem.Spec
/-! ### names -/
def getV (σ : Env) (i : Nat) (k : D → Prop) : Prop := match σ[i]? with
  | some (some d) => k d
  | _ => False
theorem zgetV_0 {σ : Env} {d : D} {k : D → Prop} : getV (some d :: σ) 0 k = k d := rfl
theorem zgetV_s {σ : Env} {o : Option D} {i : Nat} {k : D → Prop} : getV (o :: σ) (i + 1) k = getV σ i k := by unfold getV; rw [List.getElem?_cons_succ]
section
variable {Γ : List DSp} {fs : List (Str × D)} {E : EX} {σ : Env} {S : Sto} {Q : DK} {a b c : IE} {es : IEs}
theorem zw_var {i : Nat} : wpE Γ fs (.var i) E σ S Q = getV σ i fun d => Q d S := by first | (simp only [wpE, getV]; done) | (simp only [wpE, getV]; rfl)
theorem zw_con {d : D} : wpE Γ fs (.con d) E σ S Q = Q d S := by first | (simp only [wpE]; done) | (simp only [wpE]; rfl)
theorem zw_bin {op : Operator} : wpE Γ fs (.bin op a b) E σ S Q = wpE Γ fs a E σ S fun x S1 => wpE Γ fs b E σ S1 fun y S2 => opD op x y S2 Q := by first | (simp only [wpE]; done) | (simp only [wpE]; rfl)
theorem zw_tup : wpE Γ fs (.tup es) E σ S Q = wpEs Γ fs es E σ S fun ds S1 => Q (.tup ds) S1 := by first | (simp only [wpE]; done) | (simp only [wpE]; rfl)
theorem zw_lst : wpE Γ fs (.lst es) E σ S Q = wpEs Γ fs es E σ S fun ds S1 => ∀ p, S1 p = none → Q (.ref p) (put S1 p (.lst ds)) := by first | (simp only [wpE]; done) | (simp only [wpE]; rfl)
theorem zw_nil {Q : LK} : wpEs Γ fs .nil E σ S Q = Q [] S := by first | (simp only [wpEs]; done) | (simp only [wpEs]; rfl)
theorem zw_cons {Q : LK} : wpEs Γ fs (.cons a es) E σ S Q = wpE Γ fs a E σ S fun x S1 => wpEs Γ fs es E σ S1 fun xs S2 => Q (x :: xs) S2 := by first | (simp only [wpEs]; done) | (simp only [wpEs]; rfl)
def negK (x : D) (k : Int → Prop) : Prop := match x with
  | .int i => k i
  | _ => False
theorem zw_neg : wpE Γ fs (.neg a) E σ S Q = wpE Γ fs a E σ S fun x S1 => onI x fun i => Q (.int (-i)) S1 := by
  simp only [wpE]; rfl
theorem zw_nt : wpE Γ fs (.nt a) E σ S Q = wpE Γ fs a E σ S fun x S1 => truD S1 x fun k => Q (.bl (!k)) S1 := by first | (simp only [wpE]; done) | (simp only [wpE]; rfl)
theorem zw_an : wpE Γ fs (.an a b) E σ S Q = wpE Γ fs a E σ S fun x S1 => truD S1 x fun k => if k = true then wpE Γ fs b E σ S1 Q else Q x S1 := by first | (simp only [wpE]; done) | (simp only [wpE]; rfl)
theorem zw_or : wpE Γ fs (.or a b) E σ S Q = wpE Γ fs a E σ S fun x S1 => truD S1 x fun k => if k = true then Q x S1 else wpE Γ fs b E σ S1 Q := by first | (simp only [wpE]; done) | (simp only [wpE]; rfl)
theorem zw_cmp {op : CmpOp} : wpE Γ fs (.cmp op a b) E σ S Q = wpE Γ fs a E σ S fun x S1 => wpE Γ fs b E σ S1 fun y S2 => cmpD op x y S2 fun k => Q (.bl k) S2 := by first | (simp only [wpE]; done) | (simp only [wpE]; rfl)
theorem zw_ite {c : IB} : wpE Γ fs (.ite c a b) E σ S Q = wpB Γ fs c E σ S fun k S1 => if k = true then wpE Γ fs a E σ S1 Q else wpE Γ fs b E σ S1 Q := by first | (simp only [wpE]; done) | (simp only [wpE]; rfl)
theorem zw_idx : wpE Γ fs (.idx a b) E σ S Q = wpE Γ fs a E σ S fun x S1 => wpE Γ fs b E σ S1 fun y S2 => idxD x y S2 Q := by first | (simp only [wpE]; done) | (simp only [wpE]; rfl)
def partK (d : D) (k : Option Int → Prop) : Prop := match d with
  | .non => k none
  | .int i => k (some i)
  | _ => False
theorem part_iff {d : D} {k : Option Int → Prop} : (∃ o, partD d = some o ∧ k o) ↔ partK d k := by
  cases d <;> simp [partD, partK]
theorem zw_slc : wpE Γ fs (.slc a b c) E σ S Q = wpE Γ fs a E σ S fun x S1 => wpE Γ fs b E σ S1 fun l S2 => partK l fun l' => wpE Γ fs c E σ S2 fun u S3 => partK u fun u' => slcD x l' u' S3 Q := by
  simp only [wpE, part_iff]
theorem zw_rev : wpE Γ fs (.rev a) E σ S Q = wpE Γ fs a E σ S fun x S1 => revD x S1 Q := by first | (simp only [wpE]; done) | (simp only [wpE]; rfl)
def callD (Γ : List DSp) (i : Nat) (ds : List D) (S : Sto) (Q : DK) (E : EX) : Prop := match Γ[i]? with
  | some sp => sp ds S Q E
  | none => False
theorem zw_fn {i : Nat} : wpE Γ fs (.fn i es) E σ S Q = wpEs Γ fs es E σ S fun ds S1 => callD Γ i ds S1 Q E := by first | (simp only [wpE, callD]; done) | (simp only [wpE, callD]; rfl)
theorem zcallD_0 {sp : DSp} {ds : List D} : callD (sp :: Γ) 0 ds S Q E = sp ds S Q E := rfl
theorem zcallD_s {sp : DSp} {i : Nat} {ds : List D} : callD (sp :: Γ) (i + 1) ds S Q E = callD Γ i ds S Q E := by unfold callD; rw [List.getElem?_cons_succ]
theorem zw_bi {f : Bi} : wpE Γ fs (.bi f es) E σ S Q = wpEs Γ fs es E σ S fun ds S1 => biD f ds S1 Q := by first | (simp only [wpE]; done) | (simp only [wpE]; rfl)
def isiK (S : Sto) (x : D) (t : Ty) (k : Bool → Prop) : Prop := match tyB S x t with
  | some b => k b
  | none => False
theorem zw_isi {t : Ty} : wpE Γ fs (.isi a t) E σ S Q = wpE Γ fs a E σ S fun x S1 => isiK S1 x t fun k => Q (.bl k) S1 := by first | (simp only [wpE, isiK]; done) | (simp only [wpE, isiK]; rfl)
theorem zw_mt {m : Me} : wpE Γ fs (.mt m a es) E σ S Q = wpE Γ fs a E σ S fun x S1 => recvD m x S1 ∧ wpEs Γ fs es E σ S1 fun ds S2 => mtD m x ds S2 Q := by first | (simp only [wpE]; done) | (simp only [wpE]; rfl)
theorem zw_cmp2 {o1 o2 : CmpOp} : wpE Γ fs (.cmp2 o1 o2 a b c) E σ S Q = wpE Γ fs a E σ S fun x S1 => wpE Γ fs b E σ S1 fun y S2 => cmpD o1 x y S2 fun k => if k = true then wpE Γ fs c E σ S2 fun z S3 => cmpD o2 y z S3 fun k2 => Q (.bl k2) S3 else Q (.bl false) S2 := by first | (simp only [wpE]; done) | (simp only [wpE]; rfl)
theorem zw_lc {vs : List Nat} {t : IT} {it : II} {c : IB} : wpE Γ fs (.lc vs t it c a) E σ S Q = wpI Γ fs it E σ S fun src S1 => lcD src.chk (fun x K => wpT t x (wipe σ vs) K) (fun σ1 S K => wpB Γ fs c noE σ1 S K) (fun σ1 S acc K => wpE Γ fs a noE σ1 S fun y S' => K (acc ++ [y]) S') src.items [] S1
      fun ys S2 => ∀ p, S2 p = none → Q (.ref p) (put S2 p (.lst ys)) := by first | (simp only [wpE]; done) | (simp only [wpE]; rfl)
/-! ### tests -/
variable {B B2 : IB} {QB : BK}
theorem zb_tr : wpB Γ fs (.tr a) E σ S QB = wpE Γ fs a E σ S fun x S1 => truD S1 x fun k => QB k S1 := by first | (simp only [wpB]; done) | (simp only [wpB]; rfl)
theorem zb_yes : wpB Γ fs .yes E σ S QB = QB true S := by first | (simp only [wpB]; done) | (simp only [wpB]; rfl)
theorem zb_nt : wpB Γ fs (.nt B) E σ S QB = wpB Γ fs B E σ S fun k S1 => QB (!k) S1 := by first | (simp only [wpB]; done) | (simp only [wpB]; rfl)
theorem zb_an : wpB Γ fs (.an B B2) E σ S QB = wpB Γ fs B E σ S fun k S1 => if k = true then wpB Γ fs B2 E σ S1 QB else QB false S1 := by first | (simp only [wpB]; done) | (simp only [wpB]; rfl)
theorem zb_or : wpB Γ fs (.or B B2) E σ S QB = wpB Γ fs B E σ S fun k S1 => if k = true then QB true S1 else wpB Γ fs B2 E σ S1 QB := by first | (simp only [wpB]; done) | (simp only [wpB]; rfl)
theorem zb_cmp {op : CmpOp} : wpB Γ fs (.cmp op a b) E σ S QB = wpE Γ fs a E σ S fun x S1 => wpE Γ fs b E σ S1 fun y S2 => cmpD op x y S2 fun k => QB k S2 := by first | (simp only [wpB]; done) | (simp only [wpB]; rfl)
theorem zb_cmp2 {o1 o2 : CmpOp} : wpB Γ fs (.cmp2 o1 o2 a b c) E σ S QB = wpE Γ fs a E σ S fun x S1 => wpE Γ fs b E σ S1 fun y S2 => cmpD o1 x y S2 fun k => if k = true then wpE Γ fs c E σ S2 fun z S3 => cmpD o2 y z S3 fun k2 => QB k2 S3 else QB false S2 := by first | (simp only [wpB]; done) | (simp only [wpB]; rfl)
/-! ### what is walked -/
variable {QI : Src → Sto → Prop}
theorem zi_ev : wpI Γ fs (.ev a) E σ S QI = wpE Γ fs a E σ S fun x S1 => iterD x S1 fun src => QI src S1 := by first | (simp only [wpI]; done) | (simp only [wpI]; rfl)
theorem zi_rng : wpI Γ fs (.rng es) E σ S QI = wpEs Γ fs es E σ S fun ds S1 => rngD ds fun src => QI src S1 := by first | (simp only [wpI]; done) | (simp only [wpI]; rfl)
theorem zi_enu : wpI Γ fs (.enu a) E σ S QI = wpE Γ fs a E σ S fun x S1 => iterT x S1 fun src => QI ⟨enums 0 src.items, src.chk⟩ S1 := by first | (simp only [wpI]; done) | (simp only [wpI]; rfl)
def itO (a : Addr) (Q : Src → Prop) : Option SO → Prop
  | some (.lst xs) => Q ⟨xs, fun S' => S' a = some (.lst xs)⟩
  | some (.dct kvs g) => Q ⟨kvs.map (·.1), fun S' => S' a = some (.dct kvs g)⟩
  | _ => False
theorem zit_tup {xs : List D} {Q : Src → Prop} : iterD (.tup xs) S Q = Q ⟨xs, fun _ => True⟩ := rfl
theorem zit_str {z : Str} {Q : Src → Prop} : iterD (.str z) S Q = (z.length ≤ line ∧ Q ⟨z.cps.toList.map fun c => .str ⟨#[c]⟩, fun _ => True⟩) := rfl
theorem zit_ref {a : Addr} {Q : Src → Prop} : iterD (.ref a) S Q = itO a Q (S a) := by
  simp only [iterD]; rfl
theorem zitT_tup {xs : List D} {Q : Src → Prop} : iterT (.tup xs) S Q = Q ⟨xs, fun _ => True⟩ := rfl
theorem zrng_1 {j : Int} {Q : Src → Prop} : rngD [.int j] Q = (-(2 ^ 62) ≤ j ∧ j < line ∧ Q ⟨rngs 0 j, fun _ => True⟩) := rfl
/-! ### statements -/
variable {K : Ks} {t : IT} {ss r : ISs}
theorem zs_nil : wpSs Γ fs .nil K σ S = K.nx σ S := by first | (simp only [wpSs]; done) | (simp only [wpSs]; rfl)
theorem zs_cons {s : IS} : wpSs Γ fs (.cons s r) K σ S = wpS Γ fs s { K with nx := fun σ1 S1 => wpSs Γ fs r K σ1 S1 } σ S := by first | (simp only [wpSs]; done) | (simp only [wpSs]; rfl)
theorem zsw_asg : wpS Γ fs (.asg t a) K σ S = wpE Γ fs a (K.E σ) σ S fun x S1 => wpT t x σ fun σ1 => K.nx σ1 S1 := by first | (simp only [wpS]; done) | (simp only [wpS]; rfl)
theorem zsw_asub : wpS Γ fs (.asub a b c) K σ S = wpE Γ fs c (K.E σ) σ S fun v S1 => wpE Γ fs a (K.E σ) σ S1 fun x S2 => wpE Γ fs b (K.E σ) σ S2 fun k S3 => subD x k v S3 fun S4 => K.nx σ S4 := by first | (simp only [wpS]; done) | (simp only [wpS]; rfl)
theorem zsw_aug {i : Nat} {op : Operator} : wpS Γ fs (.aug i op a) K σ S = getV σ i fun x => wpE Γ fs a (K.E σ) σ S fun y S1 => ipD op x y S1 fun z S2 => K.nx (σ.set i (some z)) S2 := by
  simp only [wpS]; rfl
theorem zsw_ex : wpS Γ fs (.ex a) K σ S = wpE Γ fs a (K.E σ) σ S fun _ S1 => K.nx σ S1 := by first | (simp only [wpS]; done) | (simp only [wpS]; rfl)
theorem zsw_ret : wpS Γ fs (.ret a) K σ S = wpE Γ fs a (K.E σ) σ S K.rt := by first | (simp only [wpS]; done) | (simp only [wpS]; rfl)
theorem zsw_iff : wpS Γ fs (.iff B ss r) K σ S = wpB Γ fs B (K.E σ) σ S fun k S1 => if k = true then wpSs Γ fs ss K σ S1 else wpSs Γ fs r K σ S1 := by first | (simp only [wpS]; done) | (simp only [wpS]; rfl)
theorem zsw_whl : wpS Γ fs (.whl B ss) K σ S = whileD (fun σ S Q => wpB Γ fs B (K.E σ) σ S Q) (fun K σ S => wpSs Γ fs ss K σ S) K σ S := by first | (simp only [wpS]; done) | (simp only [wpS]; rfl)
theorem zsw_frr {it : II} : wpS Γ fs (.frr t it ss) K σ S = wpI Γ fs it (K.E σ) σ S fun src S1 => loopD src.chk (fun x σ Q => wpT t x σ Q) (fun K σ S => wpSs Γ fs ss K σ S) src.items K σ S1 := by first | (simp only [wpS]; done) | (simp only [wpS]; rfl)
def rseK (c : Str) (ds : List D) (k : List (Str × D) → Prop) : Prop := match fieldsOf c ds with
  | some gs => k gs
  | none => False
theorem zsw_rse {c : Str} : wpS Γ fs (.rse c es) K σ S = wpEs Γ fs es (K.E σ) σ S fun ds S1 => rseK c ds fun gs => K.ex c gs σ S1 := by first | (simp only [wpS, rseK]; done) | (simp only [wpS, rseK]; rfl)
theorem zsw_pas : wpS Γ fs .pas K σ S = K.nx σ S := by first | (simp only [wpS]; done) | (simp only [wpS]; rfl)
/-! ### targets -/
theorem zt_nam {i : Nat} {v : D} {Q : Env → Prop} : wpT (.nam i) v σ Q = Q (σ.set i (some v)) := by first | (simp only [wpT]; done) | (simp only [wpT]; rfl)
theorem zt_tup {ts : ITs} {vs : List D} {Q : Env → Prop} : wpT (.tup ts) (.tup vs) σ Q = wpTs ts vs σ Q := by first | (simp only [wpT]; done) | (simp only [wpT]; rfl)
theorem zts_nil {Q : Env → Prop} : wpTs .nil [] σ Q = Q σ := by first | (simp only [wpTs]; done) | (simp only [wpTs]; rfl)
theorem zts_cons {ts : ITs} {v : D} {vs : List D} {Q : Env → Prop} : wpTs (.cons t ts) (v :: vs) σ Q = wpT t v σ fun σ' => wpTs ts vs σ' Q := by first | (simp only [wpTs]; done) | (simp only [wpTs]; rfl)
/-! ### operators -/
variable {i j : Int} {x y : Str} {xs ys : List D}
theorem zo_addI : opD .Add (.int i) (.int j) S Q = Q (.int (i + j)) S := rfl
theorem zo_addS : opD .Add (.str x) (.str y) S Q = (x.length + y.length ≤ line ∧ Q (.str (x ++ y)) S) := rfl
theorem zo_addT : opD .Add (.tup xs) (.tup ys) S Q = (xs.length + ys.length ≤ line ∧ Q (.tup (xs ++ ys)) S) := rfl
def addO (S : Sto) (Q : DK) : Option SO → Option SO → Prop
  | some (.lst xs), some (.lst ys) => xs.length + ys.length ≤ line ∧ ∀ p, S p = none → Q (.ref p) (put S p (.lst (xs ++ ys)))
  | _, _ => False
theorem zo_addL {a b : Addr} : opD .Add (.ref a) (.ref b) S Q = addO S Q (S a) (S b) := by
  simp only [opD]
  unfold addO
  apply propext
  constructor
  · rintro ⟨xs, ys, h1, h2, h⟩; rw [h1, h2]; exact h
  · intro h
    split at h
    · rename_i xs ys h1 h2; exact ⟨xs, ys, h1, h2, h⟩
    · exact h.elim
theorem zo_subI : opD .Sub (.int i) (.int j) S Q = Q (.int (i - j)) S := rfl
theorem zo_mulI : opD .Mult (.int i) (.int j) S Q = (smul i j ∧ Q (.int (i * j)) S) := rfl
theorem zo_mulT : opD .Mult (.tup xs) (.int j) S Q = (j ≤ 1000000 ∧ -(2 ^ 63) ≤ j ∧ xs.length * j.toNat ≤ line ∧ Q (.tup (reps j xs)) S) := rfl
def mulO (S : Sto) (k : Int) (Q : DK) : Option SO → Prop
  | some (.lst xs) => -(2 ^ 63) ≤ k ∧ k < 2 ^ 63 ∧ xs.length * k.toNat ≤ line ∧ ∀ p, S p = none → Q (.ref p) (put S p (.lst (reps k xs)))
  | _ => False
theorem zo_mulL {a : Addr} : opD .Mult (.ref a) (.int j) S Q = mulO S j Q (S a) := by
  simp only [opD]
  unfold mulO
  apply propext
  constructor
  · rintro ⟨xs, h1, h⟩; rw [h1]; exact h
  · intro h
    split at h
    · rename_i xs h1; exact ⟨xs, h1, h⟩
    · exact h.elim
theorem zo_fdiv : opD .FloorDiv (.int i) (.int j) S Q = ((j ≠ 0 ∧ j.natAbs < 1073741824) ∧ Q (.int (i.fdiv j)) S) := rfl
theorem zo_mod : opD .Mod (.int i) (.int j) S Q = (j ≠ 0 ∧ Q (.int (i.fmod j)) S) := rfl
theorem zo_pow : opD .Pow (.int i) (.int j) S Q = ((0 ≤ j ∧ j ≤ 1000000 ∧ i.natAbs < 2 ^ 64) ∧ Q (.int (i ^ j.toNat)) S) := rfl
theorem zip_I : ipD .Add (.int i) (.int j) S Q = Q (.int (i + j)) S := rfl
def ipO (S : Sto) (a : Addr) (Q : DK) : Option SO → Option SO → Prop
  | some (.lst xs), some (.lst ys) => xs.length + ys.length ≤ line ∧ Q (.ref a) (put S a (.lst (xs ++ ys)))
  | _, _ => False
theorem zip_L {a b : Addr} : ipD .Add (.ref a) (.ref b) S Q = ipO S a Q (S a) (S b) := by
  simp only [ipD]
  unfold ipO
  apply propext
  constructor
  · rintro ⟨xs, ys, h1, h2, h⟩; rw [h1, h2]; exact h
  · intro h
    split at h
    · rename_i xs ys h1 h2; exact ⟨xs, ys, h1, h2, h⟩
    · exact h.elim
theorem zaddO_ll {S : Sto} {Q : DK} : addO S Q (some (.lst xs)) (some (.lst ys)) = (xs.length + ys.length ≤ line ∧ ∀ p, S p = none → Q (.ref p) (put S p (.lst (xs ++ ys)))) := rfl
theorem zmulO_l {S : Sto} {Q : DK} : mulO S j Q (some (.lst xs)) = (-(2 ^ 63) ≤ j ∧ j < 2 ^ 63 ∧ xs.length * j.toNat ≤ line ∧ ∀ p, S p = none → Q (.ref p) (put S p (.lst (reps j xs)))) := rfl
theorem zipO_ll {S : Sto} {a : Addr} {Q : DK} : ipO S a Q (some (.lst xs)) (some (.lst ys)) = (xs.length + ys.length ≤ line ∧ Q (.ref a) (put S a (.lst (xs ++ ys)))) := rfl
theorem zitO_l {a : Addr} {Q : Src → Prop} : itO a Q (some (.lst xs)) = Q ⟨xs, fun S' => S' a = some (.lst xs)⟩ := rfl
/-! ### truth -/
variable {T : Bool → Prop}
theorem ztr_non : truD S .non T = T false := rfl
theorem ztr_bl {b : Bool} : truD S (.bl b) T = T b := rfl
theorem ztr_int : truD S (.int i) T = T (i != 0) := rfl
theorem ztr_tup : truD S (.tup xs) T = T (!xs.isEmpty) := rfl
def truO (T : Bool → Prop) : Option SO → Prop
  | some (.lst xs) => T (!xs.isEmpty)
  | _ => False
theorem ztr_ref {a : Addr} : truD S (.ref a) T = truO T (S a) := by first | (simp only [truD, truO]; done) | (simp only [truD, truO]; rfl)
theorem ztruO_l : truO T (some (.lst xs)) = T (!xs.isEmpty) := rfl
/-! ### built-ins -/
theorem zbi_len {v : D} : biD .len [v] S Q = lenD S v fun n => Q (.int n) S := rfl
theorem zlen_str : lenD S (.str x) (fun n => Q (.int n) S) = (x.length ≤ line ∧ Q (.int x.length) S) := rfl
theorem zlen_tup {k : Int → Prop} : lenD S (.tup xs) k = k xs.length := rfl
theorem zlen_strK {k : Int → Prop} : lenD S (.str x) k = (x.length ≤ line ∧ k x.length) := rfl
def lenO (k : Int → Prop) : Option SO → Prop
  | some (.lst xs) => k xs.length
  | some (.dct kvs _) => k kvs.length
  | _ => False
theorem zlen_ref {a : Addr} {k : Int → Prop} : lenD S (.ref a) k = lenO k (S a) := by first | (simp only [lenD, lenO]; done) | (simp only [lenD, lenO]; rfl)
theorem zlenO_l {k : Int → Prop} : lenO k (some (.lst xs)) = k xs.length := rfl
theorem zbi_int : biD .int [.int i] S Q = Q (.int i) S := rfl
theorem zbi_abs : biD .abs [.int i] S Q = Q (.int (if i < 0 then -i else i)) S := rfl
theorem zbi_min2 : biD .min2 [.int i, .int j] S Q = Q (.int (if j < i then j else i)) S := rfl
theorem zbi_tupT : biD .tuple [.tup xs] S Q = Q (.tup xs) S := by
  apply propext
  constructor
  · rintro ⟨ys, h, q⟩; cases h; exact q
  · intro q; exact ⟨xs, rfl, q⟩
def tupO (S : Sto) (Q : DK) : Option SO → Prop
  | some (.lst xs) => Q (.tup xs) S
  | _ => False
theorem zbi_tupL {a : Addr} : biD .tuple [.ref a] S Q = tupO S Q (S a) := by
  apply propext
  show (∃ ys, seqT S (.ref a) = some ys ∧ Q (.tup ys) S) ↔ _
  simp only [seqT]
  unfold tupO
  constructor
  · rintro ⟨ys, h, q⟩
    split at h
    · rename_i e; cases h; first | (rw [e]; exact q) | exact q
    · cases h
  · intro h
    split at h
    · rename_i e; first | (rw [e]; exact ⟨_, rfl, h⟩) | exact ⟨_, rfl, h⟩
    · exact h.elim
theorem ztupO_l {S : Sto} {Q : DK} : tupO S Q (some (.lst xs)) = Q (.tup xs) S := rfl
theorem zbi_lstT : biD .list [.tup xs] S Q = ∀ p, S p = none → Q (.ref p) (put S p (.lst xs)) := by
  apply propext
  constructor
  · rintro ⟨ys, h, q⟩; cases h; exact q
  · intro q; exact ⟨xs, rfl, q⟩
def lstO (S : Sto) (Q : DK) : Option SO → Prop
  | some (.lst xs) => ∀ p, S p = none → Q (.ref p) (put S p (.lst xs))
  | some (.dct kvs _) => ∀ p, S p = none → Q (.ref p) (put S p (.lst (kvs.map (·.1))))
  | _ => False
theorem zbi_lstL {a : Addr} : biD .list [.ref a] S Q = lstO S Q (S a) := by
  apply propext
  show (∃ ys, seqD S (.ref a) = some ys ∧ fresh S (.lst ys) Q) ↔ _
  simp only [seqD]
  unfold lstO fresh
  constructor
  · rintro ⟨ys, h, q⟩
    split at h
    · rename_i e; cases h; first | (rw [e]; exact q) | exact q
    · rename_i e; cases h; first | (rw [e]; exact q) | exact q
    · cases h
  · intro h
    split at h
    · rename_i e; first | (rw [e]; exact ⟨_, rfl, h⟩) | exact ⟨_, rfl, h⟩
    · rename_i e; first | (rw [e]; exact ⟨_, rfl, h⟩) | exact ⟨_, rfl, h⟩
    · exact h.elim
theorem zlstO_l {S : Sto} {Q : DK} : lstO S Q (some (.lst xs)) = ∀ p, S p = none → Q (.ref p) (put S p (.lst xs)) := rfl
theorem zon_int {f : Int → Prop} : onI (.int i) f = f i := rfl
def allO (S : Sto) (Q : DK) : Option SO → Prop
  | some (.lst xs) => ∃ bs, boolsD xs = some bs ∧ Q (.bl (bs.all id)) S
  | _ => False
theorem zbi_all {a : Addr} : biD .all [.ref a] S Q = allO S Q (S a) := by
  show refL S (.ref a) (fun xs => ∃ bs, boolsD xs = some bs ∧ Q (.bl (bs.all id)) S) = _
  simp only [refL]; rfl
theorem bools_map : ∀ bs : List Bool, boolsD (bs.map .bl) = some bs
  | [] => rfl
  | b :: r => by simp only [List.map_cons, boolsD, bools_map r, Option.map_some]
theorem zallO_b {S : Sto} {Q : DK} {bs : List Bool} : allO S Q (some (.lst (bs.map .bl))) = Q (.bl (bs.all id)) S := by
  apply propext
  simp only [allO, bools_map, Option.some.injEq, exists_eq_left']
/-! ### places -/
def ixK (xs : List D) (i : Int) (k : D → Prop) : Prop := match ixD xs i with
  | some y => k y
  | none => False
theorem zix_tup : idxD (.tup xs) (.int i) S Q = ixK xs i fun y => Q y S := by first | (simp only [idxD, ixK]; done) | (simp only [idxD, ixK]; rfl)
def ixO (S : Sto) (i : Int) (Q : DK) : Option SO → Prop
  | some (.lst xs) => ixK xs i fun y => Q y S
  | some (.dct kvs _) => fitK (.int i) kvs = true ∧ match keyD (.int i) kvs with
    | some y => Q y S
    | none => False
  | _ => False
theorem zix_ref {a : Addr} : idxD (.ref a) (.int i) S Q = ixO S i Q (S a) := by
  simp only [idxD]
  cases S a with
  | none => rfl
  | some o => cases o <;> rfl
theorem zixO_l {S : Sto} {Q : DK} : ixO S i Q (some (.lst xs)) = ixK xs i fun y => Q y S := rfl
def ixS (z : Str) (i : Int) (k : D → Prop) : Prop := match ixD z.cps.toList i with
  | some c => k (.str ⟨#[c]⟩)
  | none => False
theorem zix_str : idxD (.str x) (.int i) S Q = (x.length ≤ line ∧ ixS x i fun y => Q y S) := by first | (simp only [idxD, ixS]; done) | (simp only [idxD, ixS]; rfl)
theorem zixK_0 {v : D} {k : D → Prop} : ixK (v :: xs) 0 k = k v := rfl
theorem zixK_1 {u v : D} {k : D → Prop} : ixK (u :: v :: xs) 1 k = k v := rfl
theorem zixK_n {n : Nat} {v : D} {k : D → Prop} (h : xs[n]? = some v) : ixK xs (n : Int) k = k v := by unfold ixK; rw [ixD_nat, h]
def subO (S : Sto) (a : Addr) (i v : D) (Q : Sto → Prop) : Prop := subD (.ref a) i v S Q
theorem zsub_l {a : Addr} {n : Nat} {v : D} {Q : Sto → Prop} (h : S a = some (.lst xs)) (hn : n < xs.length) : subD (.ref a) (.int n) v S Q ↔ Q (put S a (.lst (xs.set n v))) := by
  simp only [subD, h]
  constructor
  · rintro ⟨j, hj, hl, q⟩
    have : j = n := by split at hj <;> omega
    subst this; exact q
  · intro q; exact ⟨n, by rw [if_pos (by omega)], hn, q⟩
/-! ### methods -/
theorem zmt_app {a : Addr} {v : D} : mtD .append (.ref a) [v] S Q = atL S a fun xs => xs.length < line ∧ Q .non (put S a (.lst (xs ++ [v]))) := rfl
theorem zmt_pop {a : Addr} : mtD .pop (.ref a) [] S Q = atL S a fun zs => ∃ xs y, zs = xs ++ [y] ∧ Q y (put S a (.lst xs)) := by
  apply propext; exact ⟨fun h => h.2, fun h => ⟨rfl, h⟩⟩
def atO (f : List D → Prop) : Option SO → Prop
  | some (.lst xs) => f xs
  | _ => False
theorem zat_l {a : Addr} {f : List D → Prop} : atL S a f = atO f (S a) := by first | (simp only [atL, atO]; done) | (simp only [atL, atO]; rfl)
theorem zatO_l {f : List D → Prop} : atO f (some (.lst xs)) = f xs := rfl
theorem zrv_app {a : Addr} : recvD .append (.ref a) S = atO (fun _ => True) (S a) := by first | (simp only [recvD, refL, atO]; done) | (simp only [recvD, refL, atO]; rfl)
theorem zrv_pop {a : Addr} : recvD .pop (.ref a) S = atO (fun _ => True) (S a) := by first | (simp only [recvD, refL, atO]; done) | (simp only [recvD, refL, atO]; rfl)
/-! ### slices -/
theorem zsl_tup {l u : Option Int} : slcD (.tup xs) l u S Q = Q (.tup (cutD xs l u)) S := rfl
theorem zsl_lst {l u : Option Int} {a : Addr} (h : S a = some (.lst xs)) : slcD (.ref a) l u S Q ↔ ∀ p, S p = none → Q (.ref p) (put S p (.lst (cutD xs l u))) := by
  simp only [slcD, h, Option.some.injEq, SO.lst.injEq, reduceCtorEq, or_false, exists_eq_left']
theorem zsl_fzl {l u : Option Int} {a : Addr} (h : S a = some (.fzl xs)) : slcD (.ref a) l u S Q ↔ ∀ p, S p = none → Q (.ref p) (put S p (.lst (cutD xs l u))) := by
  simp only [slcD, h, Option.some.injEq, SO.fzl.injEq, reduceCtorEq, false_or, exists_eq_left']
theorem zrv_tup : revD (.tup xs) S Q = Q (.tup xs.reverse) S := rfl
theorem zrv_lst {a : Addr} (h : S a = some (.lst xs)) : revD (.ref a) S Q ↔ ∀ p, S p = none → Q (.ref p) (put S p (.lst xs.reverse)) := by
  simp only [revD, h, Option.some.injEq, SO.lst.injEq, exists_eq_left']
theorem zpt_non {k : Option Int → Prop} : partK .non k = k none := rfl
theorem zpt_int {k : Option Int → Prop} : partK (.int i) k = k (some i) := rfl
/-! ### comparisons -/
theorem zc_isN {v : D} : cmpD .Is v .non S T = T (isNon v) := by cases v <;> rfl
theorem zc_isntN {v : D} : cmpD .IsNot v .non S T = T (!isNon v) := by cases v <;> rfl
theorem zc_lt : cmpD .Lt (.int i) (.int j) S T = T (decide (i < j)) := rfl
theorem zc_le : cmpD .LtE (.int i) (.int j) S T = T (decide (i ≤ j)) := rfl
theorem zc_gt : cmpD .Gt (.int i) (.int j) S T = T (decide (j < i)) := rfl
theorem zc_ge : cmpD .GtE (.int i) (.int j) S T = T (decide (j ≤ i)) := rfl
theorem zc_eq {v u : D} : cmpD .Eq v u S T = eqD S v u T := rfl
theorem zc_ne {v u : D} : cmpD .NotEq v u S T = eqD S v u fun b => T (!b) := rfl
theorem zc_in {v u : D} : cmpD .In v u S T = inD S v u T := rfl
theorem zc_nin {v u : D} : cmpD .NotIn v u S T = inD S v u fun b => T (!b) := rfl
theorem zeq_int : eqD S (.int i) (.int j) T = T (decide (i = j)) := by
  apply propext
  unfold eqD
  constructor
  · rintro ⟨p, q, h1, h2, _, _, t⟩; cases h1; cases h2
    have : PyData.eqv (.int i) (.int j) = decide (i = j) := by
      simp only [PyData.eqv]; by_cases e : i = j <;> simp [e]
    rw [this] at t; exact t
  · intro t
    refine ⟨.int i, .int j, rfl, rfl, by rfl, by rfl, ?_⟩
    have : PyData.eqv (.int i) (.int j) = decide (i = j) := by
      simp only [PyData.eqv]; by_cases e : i = j <;> simp [e]
    rw [this]; exact t
theorem shaped_str (h : PyData.strOk x = true) : SeqAt.shaped (.str x) = true := by simp [SeqAt.shaped, PyData.canLay0, PyData.depth, h]
theorem zeq_str (hx : PyData.strOk x = true) (hy : PyData.strOk y = true) : eqD S (.str x) (.str y) T = T (decide (x = y)) := by
  apply propext
  have key : PyData.eqv (.str x) (.str y) = decide (x = y) := by
    simp only [PyData.eqv]; by_cases e : x = y <;> simp [e]
  unfold eqD
  constructor
  · rintro ⟨p, q, h1, h2, _, _, t⟩; cases h1; cases h2
    rw [key] at t; exact t
  · intro t
    exact ⟨.str x, .str y, rfl, rfl, shaped_str hx, shaped_str hy, by rw [key]; exact t⟩
end
end TA
set_option Elab.async false
set_option linter.all false
set_option maxRecDepth 100000
set_option maxHeartbeats 2000000
/-! TP2: the laws' draws. -/
namespace TA
open PySem PySem.Spec
local macro_rules | `(tactic| walk_at "wp") => `(tactic| try simp only [zgetV_0, zgetV_s, zw_var, zw_con, zw_bin, zw_tup, zw_lst, zw_nil, zw_cons, zw_neg, zw_nt, zw_an, zw_or, zw_cmp, zw_ite, zw_idx, zw_slc, zw_rev, zw_fn, zcallD_0, zcallD_s, zw_bi, zw_isi, zw_mt, zw_cmp2, zw_lc, zb_tr, zb_yes, zb_nt, zb_an, zb_or, zb_cmp, zb_cmp2, zi_ev, zi_rng, zi_enu, zit_tup, zit_str, zit_ref, zitT_tup, zrng_1, zs_nil, zs_cons, zsw_asg, zsw_asub, zsw_aug, zsw_ex, zsw_ret, zsw_iff, zsw_whl, zsw_frr, zsw_rse, zsw_pas, zt_nam, zt_tup, zts_nil, zts_cons, zo_addI, zo_addS, zo_addT, zo_addL, zo_subI, zo_mulI, zo_mulT, zo_mulL, zo_fdiv, zo_mod, zo_pow, zip_I, zip_L, zaddO_ll, zmulO_l, zipO_ll, zitO_l, ztr_non, ztr_bl, ztr_int, ztr_tup, ztr_ref, ztruO_l, zbi_len, zlen_tup, zlen_strK, zlen_ref, zlenO_l, zbi_int, zbi_abs, zbi_min2, zbi_tupT, zbi_tupL, ztupO_l, zbi_lstT, zbi_lstL, zlstO_l, zon_int, zbi_all, zallO_b, zix_tup, zix_ref, zixO_l, zix_str, zixK_0, zixK_1, zmt_app, zmt_pop, zat_l, zatO_l, zrv_app, zrv_pop, zsl_tup, zrv_tup, zpt_non, zpt_int, zc_isN, zc_isntN, zc_lt, zc_le, zc_gt, zc_ge, zc_eq, zc_ne, zc_in, zc_nin, zeq_int, List.set_cons_zero, List.set_cons_succ, wipe])
local macro_rules | `(tactic| walk_at "wps") => `(tactic| try simp only [zgetV_0, zgetV_s, zw_var, zw_con, zw_bin, zw_tup, zw_lst, zw_nil, zw_cons, zw_neg, zw_nt, zw_an, zw_or, zw_cmp, zw_ite, zw_idx, zw_slc, zw_rev, zw_fn, zcallD_0, zcallD_s, zw_bi, zw_isi, zw_mt, zw_cmp2, zw_lc, zb_tr, zb_yes, zb_nt, zb_an, zb_or, zb_cmp, zb_cmp2, zi_ev, zi_rng, zi_enu, zit_tup, zit_str, zit_ref, zitT_tup, zrng_1, zs_nil, zs_cons, zsw_asg, zsw_asub, zsw_aug, zsw_ex, zsw_ret, zsw_iff, zsw_whl, zsw_frr, zsw_rse, zsw_pas, zt_nam, zt_tup, zts_nil, zts_cons, zo_addI, zo_addS, zo_addT, zo_addL, zo_subI, zo_mulI, zo_mulT, zo_mulL, zo_fdiv, zo_mod, zo_pow, zip_I, zip_L, zaddO_ll, zmulO_l, zipO_ll, zitO_l, ztr_non, ztr_bl, ztr_int, ztr_tup, ztr_ref, ztruO_l, zbi_len, zlen_tup, zlen_strK, zlen_ref, zlenO_l, zbi_int, zbi_abs, zbi_min2, zbi_tupT, zbi_tupL, ztupO_l, zbi_lstT, zbi_lstL, zlstO_l, zon_int, zbi_all, zallO_b, zix_tup, zix_ref, zixO_l, zix_str, zixK_0, zixK_1, zmt_app, zmt_pop, zat_l, zatO_l, zrv_app, zrv_pop, zsl_tup, zrv_tup, zpt_non, zpt_int, zc_isN, zc_isntN, zc_lt, zc_le, zc_gt, zc_ge, zc_eq, zc_ne, zc_in, zc_nin, zeq_int, List.set_cons_zero, List.set_cons_succ, wipe, *])
theorem smul_r {i j : Int} (h : -(2 ^ 64) < j ∧ j < 2 ^ 64) : smul i j := .inr h
theorem smul_l {i j : Int} (h : -(2 ^ 64) < i ∧ i < 2 ^ 64) : smul i j := .inl h
/-- a def with given data -/
def spMore : DSp := fun ds S Q E => ∃ a ns p, ds = [.ref a, .int p] ∧ S a = some (.lst (iL ns)) ∧ (∀ n ∈ ns, 0 ≤ n) ∧ ∀ r, 0 ≤ r → Q (.int r) S
theorem smul_c {i j : Int} (h : decide (-(2 ^ 64) < j ∧ j < 2 ^ 64) = true) : smul i j := .inr (of_decide_eq_true h)
theorem smul_c' {i j : Int} (h : decide (-(2 ^ 64) < i ∧ i < 2 ^ 64) = true) : smul i j := .inl (of_decide_eq_true h)
theorem fmod_nn {i j : Int} (h : 0 < j) : 0 ≤ i.fmod j := Int.fmod_nonneg_of_pos i h
theorem line_lt {n : Nat} (h : n ≤ 10000000) : (n : Int) < line := by
  have : line = 16777216 := sizeLine_eq
  rw [this]; omega
theorem mem_rng {n : Nat} {x : D} (h : x ∈ rngs 0 (n : Int)) : ∃ k : Nat, k < n ∧ x = .int k := by
  rw [rng_nat] at h
  obtain ⟨k, hk, rfl⟩ := List.mem_map.mp h
  exact ⟨k, List.mem_range.mp hk, rfl⟩
theorem mem_rngI {j : Int} {x : D} (h : x ∈ rngs 0 j) : ∃ k : Nat, (k : Int) < j ∧ x = .int k := by
  unfold rngs at h
  obtain ⟨k, hk, rfl⟩ := List.mem_map.mp h
  have := List.mem_range.mp hk
  exact ⟨k, by omega, by simp⟩
theorem iL_at {ns : List Int} {q : Int} (hne : ns ≠ []) (hn : ∀ n ∈ ns, 0 ≤ n) : ∃ n, 0 ≤ n ∧ ixD (iL ns) (q.fmod ns.length) = some (.int n) := by
  have hl : (0 : Int) < ns.length := by
    have := List.length_pos_iff.mpr hne
    omega
  have h1 : 0 ≤ q.fmod ns.length := fmod_nn hl
  have h2 : q.fmod ns.length < ns.length := Int.fmod_lt_of_pos q hl
  obtain ⟨k, hk⟩ := Int.eq_ofNat_of_zero_le h1
  rw [hk] at h2 ⊢
  have hk2 : k < ns.length := by omega
  refine ⟨ns[k], hn _ (List.getElem_mem hk2), ?_⟩
  rw [ixD_nat, iL_get (List.getElem?_eq_getElem hk2)]
theorem kp_law_more : Keeps [] 4 ir_law_more spMore := keeps_sub fun ds S Q E ⟨a, ns, p, hds, ha, hn, hQ⟩ => by
  subst hds
  unfold body ir_law_more
  simp only [List.map_cons, List.map_nil, List.length_cons, List.length_nil, List.replicate, List.cons_append, List.nil_append, Nat.reduceAdd, Nat.reduceSub]
  walk_at "wp"
  simp only [ha]
  walk_at "wp"
  refine ⟨smul_c rfl, by decide, by decide, line_lt (n := 3) (by decide), ?_⟩
  refine loopD_ind (fun r σ S' => S' = S ∧ (∀ x ∈ r, ∃ k : Nat, (k : Int) < 3 ∧ x = .int k) ∧ ∃ m o, 0 ≤ m ∧ σ = [some (.ref a), some (.int p), some (.int m), o]) (fun _ _ _ _ => trivial) ?_ ?_ _ _ _ ⟨rfl, fun x hx => mem_rngI hx, _, none, fmod_nn (by decide), rfl⟩
  · rintro x r σ S' nx ⟨rfl, hr, m, o, hm, rfl⟩ hnx
    obtain ⟨k, hk, rfl⟩ := hr x List.mem_cons_self
    walk_at "wp"
    simp only [ha]
    walk_at "wp"
    split
    · rename_i hne
      have hne : ns ≠ [] := by
        rintro rfl
        simp [iL] at hne
      obtain ⟨n, hn0, hix⟩ := iL_at (q := p * (↑k + 5) + ↑k) hne hn
      have hlen : ((iL ns).length : Int) = ns.length := by simp [iL]
      refine ⟨smul_r ⟨by omega, by omega⟩, ?_⟩
      rw [hlen]
      have hne0 : (ns.length : Int) ≠ 0 := by
        have := List.length_pos_iff.mpr hne
        omega
      refine ⟨hne0, ?_⟩
      unfold ixK
      rw [hix]
      walk_at "wp"
      refine ⟨smul_c rfl, smul_c' rfl, by decide, hnx _ _ ⟨rfl, fun x hx => hr x (List.mem_cons_of_mem _ hx), _, _, fmod_nn (by decide), rfl⟩⟩
    · refine ⟨smul_c rfl, smul_c' rfl, by decide, hnx _ _ ⟨rfl, fun x hx => hr x (List.mem_cons_of_mem _ hx), _, _, fmod_nn (by decide), rfl⟩⟩
  · rintro σ S' ⟨rfl, _, m, o, hm, rfl⟩
    walk_at "wp"
    exact ⟨by decide, S', .refl, hQ _ (Int.fdiv_nonneg hm (by decide))⟩
/-! ### draws, one after another -/
def DrS (S : Sto) (da aa : Addr) : Prop := ∃ ns p, S da = some (.lst (iL ns)) ∧ (∀ n ∈ ns, 0 ≤ n) ∧ S aa = some (.lst [.int p]) ∧ 0 ≤ p ∧ da ≠ aa
def adv (S : Sto) (aa : Addr) (p : Int) : Sto := put S aa (.lst [.int p])
theorem adv_adv {S : Sto} {aa : Addr} {p q : Int} : adv (adv S aa p) aa q = adv S aa q := put_put
theorem DrS.adv {S : Sto} {da aa : Addr} {p : Int} (h : DrS S da aa) (hp : 0 ≤ p) : DrS (adv S aa p) da aa := by
  obtain ⟨ns, q, h1, h2, h3, h4, h5⟩ := h
  exact ⟨ns, p, by unfold TA.adv; rw [put_ne h5]; exact h1, h2, put_same, hp, h5⟩
theorem adv_ne {S : Sto} {aa b : Addr} {p : Int} (h : b ≠ aa) : adv S aa p b = S b := put_ne h
theorem DrS.old {S S' : Sto} {da aa : Addr} (h : DrS S da aa) (sb : Sub S S') : DrS S' da aa := by
  obtain ⟨ns, q, h1, h2, h3, h4, h5⟩ := h
  exact ⟨ns, q, sb _ _ h1, h2, sb _ _ h3, h4, h5⟩
def spTake : DSp := fun ds S Q E => ∃ da aa many, ds = [.ref da, .ref aa, .int many] ∧ DrS S da aa ∧ 0 < many ∧ ∀ r p, 0 ≤ r → r < many → 0 ≤ p → Q (.int r) (adv S aa p)
theorem kp_law_take : Keeps [spMore] 4 ir_law_take spTake := keeps_sub fun ds S Q E ⟨da, aa, many, hds, ⟨ns, p, ha, hn, haa, hp, hne⟩, hm, hQ⟩ => by
  subst hds
  unfold body ir_law_take
  simp only [List.map_cons, List.map_nil, List.length_cons, List.length_nil, List.replicate, List.cons_append, List.nil_append, Nat.reduceAdd, Nat.reduceSub]
  walk_at "wp"
  simp only [haa]
  walk_at "wp"
  rw [show (D.int 0) = D.int ((0 : Nat) : Int) from rfl, zsub_l haa (by simp)]
  walk_at "wp"
  simp only [put_ne hne, ha]
  walk_at "wp"
  have fin : ∀ v : Int, many ≠ 0 ∧ ∃ S2, Sub S2 (put S aa (.lst [.int (p + 1)])) ∧ Q (.int (v.fmod many)) S2 := fun v => ⟨by omega, _, .refl, hQ _ _ (fmod_nn hm) (Int.fmod_lt_of_pos v hm) (by omega)⟩
  split
  · rename_i hlt
    simp only [iL, List.length_map, decide_eq_true_eq] at hlt
    obtain ⟨k, rfl⟩ := Int.eq_ofNat_of_zero_le hp
    have hk : k < ns.length := by omega
    rw [zixK_n (iL_get (List.getElem?_eq_getElem hk))]
    walk_at "wp"
    exact fin _
  · refine ⟨da, ns, p, rfl, by rw [put_ne hne]; exact ha, hn, fun r hr => ?_⟩
    walk_at "wp"
    exact fin _
def spOne : DSp := fun ds S Q E => ∃ rows xs da aa, ds = [rows, .ref da, .ref aa] ∧ (rows = .tup xs ∨ ∃ a, rows = .ref a ∧ S a = some (.lst xs) ∧ a ≠ aa) ∧ xs ≠ [] ∧ DrS S da aa ∧ ∀ x ∈ xs, ∀ p, 0 ≤ p → Q x (adv S aa p)
theorem kp_law_one : Keeps [spTake] 3 ir_law_one spOne := keeps_sub fun ds S Q E ⟨rows, xs, da, aa, hds, hrows, hx, hD, hQ⟩ => by
  subst hds
  unfold body ir_law_one
  simp only [List.map_cons, List.map_nil, List.length_cons, List.length_nil, List.replicate, List.cons_append, List.nil_append, Nat.reduceAdd, Nat.reduceSub]
  have hl := List.length_pos_iff.mpr hx
  have fin : ∀ r p : Int, 0 ≤ r → r < xs.length → 0 ≤ p → ixK xs r fun y => ∃ S2, Sub S2 (adv S aa p) ∧ Q y S2 := fun r p h0 h1 hp => by
    obtain ⟨k, rfl⟩ := Int.eq_ofNat_of_zero_le h0
    have hk : k < xs.length := by omega
    rw [zixK_n (List.getElem?_eq_getElem hk)]
    exact ⟨_, .refl, hQ _ (List.getElem_mem hk) p hp⟩
  rcases hrows with rfl | ⟨a, rfl, ha, hne⟩
  · walk_at "wp"
    refine ⟨da, aa, _, rfl, hD, by omega, fun r p h0 h1 hp => ?_⟩
    walk_at "wp"
    exact fin r p h0 h1 hp
  · walk_at "wp"
    simp only [ha]
    walk_at "wp"
    refine ⟨da, aa, _, rfl, hD, by omega, fun r p h0 h1 hp => ?_⟩
    walk_at "wp"
    rw [adv_ne hne, ha]
    walk_at "wp"
    exact fin r p h0 h1 hp
def spDraws : DSp := fun ds S Q E => ∃ a ns, ds = [.ref a] ∧ S a = some (.fzl (iL ns)) ∧ ∀ p ms, S p = none → (∀ m ∈ ms, 0 ≤ m) → Q (.ref p) (put S p (.lst (iL ms)))
theorem fdiv_nn {i j : Int} (h : 0 ≤ i) (hj : 0 < j) : 0 ≤ i.fdiv j := Int.fdiv_nonneg h (by omega)
theorem iL_snoc {ms : List Int} {m : Int} : iL ms ++ [.int m] = iL (ms ++ [m]) := by simp [iL]
theorem cut_iL {ns : List Int} {l u : Option Int} : cutD (iL ns) l u = iL (cutD ns l u) := by
  unfold cutD iL; simp [List.map_take, List.map_drop]
theorem cut_len {α : Type} {xs : List α} {n : Nat} : (cutD xs none (some (n : Int))).length ≤ n := by
  unfold cutD sIx
  simp
  rw [if_neg (by omega)]
  omega
theorem kp_law_draws : Keeps [] 6 ir_law_draws spDraws := keeps_sub fun ds S Q E ⟨a, ns, hds, ha, hQ⟩ => by
  subst hds
  unfold body ir_law_draws
  simp only [List.map_cons, List.map_nil, List.length_cons, List.length_nil, List.replicate, List.cons_append, List.nil_append, Nat.reduceAdd, Nat.reduceSub]
  walk_at "wp"
  intro p hp
  rw [zsl_fzl (put_old hp ha), cut_iL]
  intro q hq
  walk_at "wp"
  rw [put_same]
  walk_at "wp"
  have hqp : p ≠ q := fun e => by subst e; rw [put_same] at hq; cases hq
  have hq0 : S q = none := by rw [put_ne hqp.symm] at hq; exact hq
  have hln : line = 16777216 := sizeLine_eq
  have hcl : (cutD ns none (some 63)).length ≤ 63 := cut_len (n := 63)
  generalize hcs : cutD ns none (some 63) = cs at hcl
  -- the store: p holds the draws, q the cells
  refine loopD_ind (fun r σ S' => r.length ≤ 63 ∧ (∀ x ∈ r, ∃ n, x = .int n) ∧ ∃ ms o2 o3 o4 o5, (∀ m ∈ ms, 0 ≤ m) ∧ ms.length + r.length * 60 ≤ 3780 ∧ S' = put (put S q (.lst (iL cs))) p (.lst (iL ms)) ∧ σ = [some (.ref a), some (.ref p), o2, o3, o4, o5]) ?_ ?_ ?_ _ _ _
    ⟨by simpa [iL] using hcl, fun x hx => ?_, [], none, none, none, none, (fun m hm => by cases hm), (by simp [iL]; omega), ?_, rfl⟩
  · rintro r σ S' ⟨_, _, ms, _, _, _, _, _, _, rfl, _⟩
    rw [put_ne hqp.symm, put_same]
  · rintro x r σ S' nx ⟨hrl, hr, ms, o2, o3, o4, o5, hms, hml, rfl, rfl⟩ hnx
    obtain ⟨c, rfl⟩ := hr x List.mem_cons_self
    have hr' : ∀ x ∈ r, ∃ n, x = D.int n := fun x hx => hr x (List.mem_cons_of_mem _ hx)
    simp only [List.length_cons] at hrl hml
    have hlm : (line : Nat) = 16777216 := hln
    walk_at "wp"
    refine ⟨⟨by decide, by decide, by decide⟩, ?_⟩
    have h0 : 0 ≤ (if c < 0 then -c else c) := by split <;> omega
    generalize (if c < 0 then -c else c) = rest at h0
    split
    · walk_at "wp"
      refine ⟨by decide, line_lt (n := 60) (by decide), ?_⟩
      refine loopD_ind (fun r2 σ S' => r2.length ≤ 60 ∧ ∃ ms' o4 o5 rest, 0 ≤ rest ∧ (∀ m ∈ ms', 0 ≤ m) ∧ ms'.length + r2.length ≤ ms.length + 60 ∧ S' = put (put S q (.lst (iL cs))) p (.lst (iL ms')) ∧ σ = [some (.ref a), some (.ref p), some (.int c), some (.int rest), o4, o5]) (fun _ _ _ _ => trivial) ?_ ?_ _ _ _
        ⟨by simp [rngs], ms, o4, o5, rest, h0, hms, by simp [rngs], rfl, rfl⟩
      · rintro x r2 σ S' nx2 ⟨hl2, ms', o4, o5, rest, hr0, hms', hl, rfl, rfl⟩ hnx2
        simp only [List.length_cons] at hl2 hl
        walk_at "wp"
        split
        · walk_at "wp"
          simp only [put_same]
          walk_at "wp"
          refine ⟨trivial, by decide, by simp [iL]; omega, ⟨by decide, by decide⟩, ?_⟩
          rw [put_put, iL_snoc]
          refine hnx2 _ _ ⟨by omega, ms' ++ [_], _, _, _, fdiv_nn hr0 (by decide), fun m hm => ?_, by simp; omega, rfl, rfl⟩
          rcases List.mem_append.mp hm with h | h
          · exact hms' m h
          · rw [List.mem_singleton.mp h]; exact fmod_nn (by decide)
        · walk_at "wp"
          exact hnx2 _ _ ⟨by omega, ms', _, _, _, hr0, hms', by omega, rfl, rfl⟩
      · rintro σ S' ⟨_, ms', o4, o5, rest, hr0, hms', hl, rfl, rfl⟩
        walk_at "wp"
        exact hnx _ _ ⟨by omega, hr', ms', _, _, _, _, hms', by simp at hl; omega, rfl, rfl⟩
    · walk_at "wp"
      refine ⟨smul_c rfl, by decide, by decide, line_lt (n := 12) (by decide), ?_⟩
      refine loopD_ind (fun r2 σ S' => r2.length ≤ 12 ∧ (∀ x ∈ r2, ∃ k : Nat, (k : Int) < 12 ∧ x = .int k) ∧ ∃ ms' o4 mixed, (∀ m ∈ ms', 0 ≤ m) ∧ ms'.length + r2.length ≤ ms.length + 12 ∧ S' = put (put S q (.lst (iL cs))) p (.lst (iL ms')) ∧ σ = [some (.ref a), some (.ref p), some (.int c), some (.int rest), o4, some (.int mixed)]) (fun _ _ _ _ => trivial) ?_ ?_ _ _ _
        ⟨by simp [rngs], fun x hx => mem_rngI hx, ms, o4, _, hms, by simp [rngs], rfl, rfl⟩
      · rintro x r2 σ S' nx2 ⟨hl2, hk, ms', o4, mixed, hms', hl, rfl, rfl⟩ hnx2
        obtain ⟨k, hk1, rfl⟩ := hk x List.mem_cons_self
        simp only [List.length_cons] at hl2 hl
        walk_at "wp"
        simp only [put_same]
        walk_at "wp"
        refine ⟨smul_c rfl, smul_c' rfl, by decide, trivial, ⟨by decide, by decide⟩, by simp [iL]; omega, ?_⟩
        rw [put_put, iL_snoc]
        refine hnx2 _ _ ⟨by omega, fun x hx => hk x (List.mem_cons_of_mem _ hx), ms' ++ [_], _, _, fun m hm => ?_, by simp; omega, rfl, rfl⟩
        rcases List.mem_append.mp hm with h | h
        · exact hms' m h
        · rw [List.mem_singleton.mp h]; exact fdiv_nn (fmod_nn (by decide)) (by decide)
      · rintro σ S' ⟨_, _, ms', o4, mixed, hms', hl, rfl, rfl⟩
        walk_at "wp"
        exact hnx _ _ ⟨by omega, hr', ms', _, _, _, _, hms', by simp at hl; omega, rfl, rfl⟩
  · rintro σ S' ⟨_, _, ms, _, _, _, _, hms, _, rfl, rfl⟩
    walk_at "wp"
    refine ⟨put S p (.lst (iL ms)), ?_, hQ p ms hp hms⟩
    exact (Sub.refl.put hq0).wr
  · simp only [iL, List.mem_map] at hx
    obtain ⟨n, _, rfl⟩ := hx
    exact ⟨n, rfl⟩
  · rw [put_comm hqp]; rfl
end TA
set_option Elab.async false
set_option linter.all false
set_option maxRecDepth 100000
set_option maxHeartbeats 2000000
/-! TQ0: values shown and compared (for k00). -/
namespace TA
open PySem PySem.Spec
/-! ### how great a value is -/
mutual
def szD : D → Nat
  | .tup xs => szDs xs + 1
  | _ => 1
def szDs : List D → Nat
  | [] => 0
  | x :: r => szD x + szDs r
end
theorem szDs_app : ∀ a b : List D, szDs (a ++ b) = szDs a + szDs b
  | [], b => by simp [szDs]
  | x :: r, b => by simp only [List.cons_append, szDs, szDs_app r b]; omega
theorem szD_pos (v : D) : 1 ≤ szD v := by cases v <;> simp [szD]
theorem szDs_len : ∀ l : List D, l.length ≤ szDs l
  | [] => Nat.zero_le _
  | x :: r => by simp only [szDs, List.length_cons]; have := szDs_len r; have := szD_pos x; omega
/-! ### texts of fine signs -/
theorem ok_app {x y : Str} (hx : PyData.strOk x = true) (hy : PyData.strOk y = true) : PyData.strOk (x ++ y) = true := by
  unfold PyData.strOk at hx hy ⊢
  show (x.cps ++ y.cps).all _ = true
  rw [Array.all_append, hx, hy]; rfl
theorem ok_of (s : String) : PyData.strOk (Str.ofString s) = true := by
  rw [Str.ofString_eq_toList]
  unfold PyData.strOk
  rw [Array.all_eq_true_iff_forall_mem]
  intro c hc
  simp only [List.mem_toArray, List.mem_map] at hc
  obtain ⟨ch, _, rfl⟩ := hc
  have hv := ch.valid
  have : ch.toNat < 0x110000 := by
    show ch.val.toNat < _
    rcases hv with h | h
    · have : ch.val.toNat < 0xd800 := h
      omega
    · exact h.2
  simpa using this
theorem ok_join {sep : Str} (hs : PyData.strOk sep = true) : ∀ {ts : List Str}, (∀ t ∈ ts, PyData.strOk t = true) → PyData.strOk (Str.join sep ts) = true
  | [], _ => by simp [Str.join, PyData.strOk, Str.empty]
  | [x], h => h x (by simp)
  | x :: y :: r, h => by
    show PyData.strOk (x ++ sep ++ Str.join sep (y :: r)) = true
    exact ok_app (ok_app (h x (by simp)) hs) (ok_join hs fun t ht => h t (List.mem_cons_of_mem _ ht))
theorem ok_tup {ts : List Str} (h : ∀ t ∈ ts, PyData.strOk t = true) : PyData.strOk (tupleText ts) = true := by
  unfold tupleText
  refine ok_app (ok_app (ok_of "(") (ok_join (ok_of ", ") h)) ?_
  split
  · exact ok_of ",)"
  · exact ok_of ")"
/-! ### small data without lists -/
mutual
def smD : D → Bool
  | .non => true
  | .bl _ => true
  | .int i => decide (i.natAbs < 10 ^ 12)
  | .str x => PyData.strOk x && (PyData.strOk (reprText x) && decide (x.length ≤ 40))
  | .tup xs => smDs xs
  | .ref _ => false
def smDs : List D → Bool
  | [] => true
  | x :: r => smD x && smDs r
end
mutual
def dpD : D → Nat
  | .tup xs => dpDs xs + 1
  | _ => 0
def dpDs : List D → Nat
  | [] => 0
  | x :: r => max (dpD x) (dpDs r)
end
structure Sm (v : D) (p : PyData) : Prop where
  lay : p.canLay0 = true
  dep : p.depth = dpD v
  wt : p.weight + 1 ≤ 42 * szD v
  ish : p.intsShort 13 = true
  shw : p.showable = true
  txt : PyData.strOk p.shown = true
structure Sms (vs : List D) (ps : List PyData) : Prop where
  lay : PyData.canLayAll0 ps = true
  dep : PyData.depthAll ps = dpDs vs
  wt : PyData.weightAll ps ≤ 42 * szDs vs
  ish : PyData.intsShortAll 13 ps = true
  shw : PyData.showableAll ps = true
  txt : ∀ t ∈ PyData.shownAll ps, PyData.strOk t = true
theorem log_lt {i : Int} (h : i.natAbs < 10 ^ 12) : i.natAbs.log2 < 40 := by
  by_cases h0 : i.natAbs = 0
  · rw [h0]; decide
  · exact (Nat.log2_lt h0).mpr (Nat.lt_of_lt_of_le h (by decide))
mutual
theorem sm_pd (f : Addr → Option PyData) : ∀ {v : D}, smD v = true → ∃ p, toP f v = some p ∧ Sm v p
  | .non, _ => ⟨.none, rfl, ⟨rfl, rfl, by simp [PyData.weight, szD], rfl, rfl, ok_of "None"⟩⟩
  | .bl b, _ => ⟨.bool b, rfl, ⟨rfl, rfl, by simp [PyData.weight, szD], rfl, rfl, by cases b <;> exact ok_of _⟩⟩
  | .int i, h => by
    have h : i.natAbs < 10 ^ 12 := by simpa [smD] using h
    have hl := log_lt h
    refine ⟨.int i, rfl, ⟨rfl, rfl, ?_, ?_, ?_, ok_of _⟩⟩
    · simp only [PyData.weight, szD]
      split <;> omega
    · simp only [PyData.intsShort, decide_eq_true_eq]; exact PyData.shown_int_le h
    · simp only [PyData.showable, decide_eq_true_eq]; omega
  | .str x, h => by
    simp only [smD, Bool.and_eq_true, decide_eq_true_eq] at h
    refine ⟨.str x, rfl, ⟨by simp only [PyData.canLay0, h.1], rfl, ?_, rfl, rfl, by simp only [PyData.shown]; exact h.2.1⟩⟩
    simp only [PyData.weight, szD]
    have : x.cps.size ≤ 40 := h.2.2
    omega
  | .tup xs, h => by
    simp only [smD] at h
    obtain ⟨ps, e, q⟩ := sms_pd f h
    have hl := szDs_len xs
    refine ⟨.tuple ps, by simp only [toP, e, Option.map_some], ⟨by simp only [PyData.canLay0, q.lay], by simp only [PyData.depth, dpD, q.dep], ?_, by simp only [PyData.intsShort, q.ish], by simp only [PyData.showable, q.shw], ?_⟩⟩
    · simp only [PyData.weight, szD]
      have := q.wt
      omega
    · simp only [PyData.shown]; exact ok_tup q.txt
  | .ref _, h => by cases h
theorem sms_pd (f : Addr → Option PyData) : ∀ {vs : List D}, smDs vs = true → ∃ ps, toPs f vs = some ps ∧ Sms vs ps
  | [], _ => ⟨[], rfl, ⟨rfl, rfl, Nat.le_refl _, rfl, rfl, fun _ h => by simp [PyData.shownAll] at h⟩⟩
  | x :: r, h => by
    simp only [smDs, Bool.and_eq_true] at h
    obtain ⟨p, e1, q1⟩ := sm_pd f h.1
    obtain ⟨ps, e2, q2⟩ := sms_pd f h.2
    refine ⟨p :: ps, by simp only [toPs, e1, e2], ⟨by simp only [PyData.canLayAll0, q1.lay, q2.lay, Bool.and_self], by simp only [PyData.depthAll, dpDs, q1.dep, q2.dep], ?_, by simp only [PyData.intsShortAll, q1.ish, q2.ish, Bool.and_self], by simp only [PyData.showableAll, q1.shw, q2.shw, Bool.and_self], fun t ht => ?_⟩⟩
    · simp only [PyData.weightAll, szDs, List.length_cons]
      have := q1.wt
      have := q2.wt
      omega
    · simp only [PyData.shownAll, List.mem_cons] at ht
      rcases ht with rfl | ht
      · exact q1.txt
      · exact q2.txt t ht
end
/-- small, not too deep, not too great -/
def fineD (v : D) : Prop := smD v = true ∧ dpD v ≤ 60 ∧ szD v ≤ 20000
theorem fine_pd {v : D} (h : fineD v) (S : Sto) : ∃ p, pd S v = some p ∧ SeqAt.shaped p = true ∧ p.showable = true ∧ p.shown.length ≤ line ∧ PyData.strOk p.shown = true ∧ p.canLay0 = true := by
  obtain ⟨h1, h2, h3⟩ := h
  obtain ⟨p, e, q⟩ := sm_pd (refP S 6) h1
  refine ⟨p, e, ?_, q.shw, ?_, q.txt, q.lay⟩
  · unfold SeqAt.shaped
    rw [q.lay, Bool.true_and, decide_eq_true_eq, q.dep]; omega
  · refine PyData.shown_fits (B := 13) (by decide) (by decide) (PyData.leavesShort_of_canLay0 13 p q.lay q.ish) ?_
    have := q.wt
    omega
/-- equal to itself -/
theorem eq_same {S : Sto} {v : D} {T : Bool → Prop} (h : fineD v) (t : T true) : eqD S v v T := by
  obtain ⟨p, e, sh, _, _, _, lay⟩ := fine_pd h S
  exact ⟨p, p, e, e, sh, sh, by rw [PySem.SeqAt.eqv_refl p lay]; exact t⟩

theorem zbi_repr {v : D} {S : Sto} {Q : DK} : biD .repr [v] S Q = reprOk S v fun t => Q (.str t) S := rfl
section
variable {S : Sto}
/-- equal lists -/
theorem eq_lists {p q : Addr} {xs : List D} {T : Bool → Prop} (hp : S p = some (.lst xs)) (hq : S q = some (.lst xs)) (h1 : smDs xs = true) (h2 : dpDs xs ≤ 50) (k : T true) : eqD S (.ref p) (.ref q) T := by
  obtain ⟨ps, e, g⟩ := sms_pd (refP S 5) h1
  have e1 : ∀ a : Addr, S a = some (.lst xs) → pd S (.ref a) = some (.list ps) := fun a ha => by
    show (match S a with
      | some (.lst xs) => (toPs (refP S 5) xs).map PyData.list
      | _ => none) = _
    rw [ha]
    show (toPs (refP S 5) xs).map PyData.list = _
    rw [e]; rfl
  have hs : SeqAt.shaped (.list ps) = true := by
    unfold SeqAt.shaped
    rw [Bool.and_eq_true, decide_eq_true_eq]
    exact ⟨by simp only [PyData.canLay0, g.lay], by simp only [PyData.depth, g.dep]; omega⟩
  exact ⟨_, _, e1 p hp, e1 q hq, hs, hs, by rw [PySem.SeqAt.eqv_refl _ (by simp only [PyData.canLay0, g.lay])]; exact k⟩
theorem ok_from : ∀ {ts : List Str} {k : Nat} {acc : Str}, PyData.strOk acc = true → (∀ t ∈ ts, PyData.strOk t = true) → PyData.strOk (textFrom k acc ts) = true
  | [], _, _, ha, _ => ha
  | t :: r, k, acc, ha, h => by
    have h1 : ∀ u ∈ r, PyData.strOk u = true := fun u hu => h u (List.mem_cons_of_mem _ hu)
    exact ok_from (ts := r) (ok_app (ok_app ha (ok_of _)) (h t List.mem_cons_self)) h1
/-- a list shown -/
theorem list_pd {xs : List D} (S : Sto) (h1 : smDs xs = true) (h2 : dpDs xs ≤ 50) (h3 : szDs xs ≤ 10000) : ∃ p, (∀ a, S a = some (.lst xs) → pd S (.ref a) = some p) ∧ SeqAt.shaped p = true ∧ p.showable = true ∧ p.shown.length ≤ line ∧ PyData.strOk p.shown = true := by
  obtain ⟨ps, e, g⟩ := sms_pd (refP S 5) h1
  have hl := szDs_len xs
  have hlay : (PyData.list ps).canLay0 = true := by simp only [PyData.canLay0, g.lay]
  refine ⟨.list ps, fun a ha => ?_, ?_, by simp only [PyData.showable, g.shw], ?_, ?_⟩
  · show (match S a with
      | some (.lst xs) => (toPs (refP S 5) xs).map PyData.list
      | _ => none) = _
    rw [ha]
    show (toPs (refP S 5) xs).map PyData.list = _
    rw [e]; rfl
  · unfold SeqAt.shaped
    rw [hlay, Bool.true_and, decide_eq_true_eq]
    simp only [PyData.depth, g.dep]; omega
  · refine PyData.shown_fits (B := 13) (by decide) (by decide) (PyData.leavesShort_of_canLay0 13 _ hlay (by simp only [PyData.intsShort, g.ish])) ?_
    have := g.wt
    simp only [PyData.weight]
    omega
  · simp only [PyData.shown]
    unfold listText
    exact ok_app (ok_from (ok_of "[") g.txt) (ok_of "]")
end
end TA
set_option Elab.async false
set_option linter.all false
set_option maxRecDepth 100000
set_option maxHeartbeats 4000000
/-! TQ1: the defs of k00. -/
namespace TA
open PySem PySem.Spec
local macro_rules | `(tactic| walk_at "wp") => `(tactic| try simp only [zgetV_0, zgetV_s, zw_var, zw_con, zw_bin, zw_tup, zw_lst, zw_nil, zw_cons, zw_neg, zw_nt, zw_an, zw_or, zw_cmp, zw_ite, zw_idx, zw_slc, zw_rev, zw_fn, zcallD_0, zcallD_s, zw_bi, zw_isi, zw_mt, zw_cmp2, zw_lc, zb_tr, zb_yes, zb_nt, zb_an, zb_or, zb_cmp, zb_cmp2, zi_ev, zi_rng, zi_enu, zit_tup, zit_str, zit_ref, zitT_tup, zrng_1, zs_nil, zs_cons, zsw_asg, zsw_asub, zsw_aug, zsw_ex, zsw_ret, zsw_iff, zsw_whl, zsw_frr, zsw_rse, zsw_pas, zt_nam, zt_tup, zts_nil, zts_cons, zo_addI, zo_addS, zo_addT, zo_addL, zo_subI, zo_mulI, zo_mulT, zo_mulL, zo_fdiv, zo_mod, zo_pow, zip_I, zip_L, zaddO_ll, zmulO_l, zipO_ll, zitO_l, ztr_non, ztr_bl, ztr_int, ztr_tup, ztr_ref, ztruO_l, zbi_len, zlen_tup, zlen_strK, zlen_ref, zlenO_l, zbi_int, zbi_abs, zbi_min2, zbi_tupT, zbi_tupL, ztupO_l, zbi_lstT, zbi_lstL, zlstO_l, zon_int, zbi_all, zallO_b, zix_tup, zix_ref, zixO_l, zix_str, zixK_0, zixK_1, zmt_app, zmt_pop, zat_l, zatO_l, zrv_app, zrv_pop, zsl_tup, zrv_tup, zpt_non, zpt_int, zc_isN, zc_isntN, zc_lt, zc_le, zc_gt, zc_ge, zc_eq, zc_ne, zc_in, zc_nin, zeq_int, List.set_cons_zero, List.set_cons_succ, wipe])
local macro_rules | `(tactic| walk_at "wps") => `(tactic| try simp only [zgetV_0, zgetV_s, zw_var, zw_con, zw_bin, zw_tup, zw_lst, zw_nil, zw_cons, zw_neg, zw_nt, zw_an, zw_or, zw_cmp, zw_ite, zw_idx, zw_slc, zw_rev, zw_fn, zcallD_0, zcallD_s, zw_bi, zw_isi, zw_mt, zw_cmp2, zw_lc, zb_tr, zb_yes, zb_nt, zb_an, zb_or, zb_cmp, zb_cmp2, zi_ev, zi_rng, zi_enu, zit_tup, zit_str, zit_ref, zitT_tup, zrng_1, zs_nil, zs_cons, zsw_asg, zsw_asub, zsw_aug, zsw_ex, zsw_ret, zsw_iff, zsw_whl, zsw_frr, zsw_rse, zsw_pas, zt_nam, zt_tup, zts_nil, zts_cons, zo_addI, zo_addS, zo_addT, zo_addL, zo_subI, zo_mulI, zo_mulT, zo_mulL, zo_fdiv, zo_mod, zo_pow, zip_I, zip_L, zaddO_ll, zmulO_l, zipO_ll, zitO_l, ztr_non, ztr_bl, ztr_int, ztr_tup, ztr_ref, ztruO_l, zbi_len, zlen_tup, zlen_strK, zlen_ref, zlenO_l, zbi_int, zbi_abs, zbi_min2, zbi_tupT, zbi_tupL, ztupO_l, zbi_lstT, zbi_lstL, zlstO_l, zon_int, zbi_all, zallO_b, zix_tup, zix_ref, zixO_l, zix_str, zixK_0, zixK_1, zmt_app, zmt_pop, zat_l, zatO_l, zrv_app, zrv_pop, zsl_tup, zrv_tup, zpt_non, zpt_int, zc_isN, zc_isntN, zc_lt, zc_le, zc_gt, zc_ge, zc_eq, zc_ne, zc_in, zc_nin, zeq_int, List.set_cons_zero, List.set_cons_succ, wipe, *])
theorem zsw_trn : wpS Γ fs (.trn b hs) K σ S = wpSs Γ fs b { K with ex := fun c' gs σ' S' => wpHs Γ hs c' gs K σ' S' } σ S := by simp only [wpS]
section
variable {Γ : List DSp} {c c' : Str} {n : Option Nat} {h : ISs} {r : IHs} {gs : List (Str × D)} {K : Ks} {σ : Env} {S : Sto}
theorem hs_hit (hc : c ∈ above c') : wpHs Γ (.cons c n h r) c' gs K σ S = (slotOk n σ ∧ wpSs Γ (gsX c' gs) h { nx := fun σ S => K.nx (noneAt n σ) S, rt := K.rt, bk := fun σ S => K.bk (noneAt n σ) S, ct := fun σ S => K.ct (noneAt n σ) S, ex := fun _ _ _ _ => False } (noneAt n σ) S) := by
  rw [wpHs_cons, if_pos hc]
theorem hs_miss (hc : c ∉ above c') : wpHs Γ (.cons c n h r) c' gs K σ S = wpHs Γ r c' gs K σ S := by
  rw [wpHs_cons, if_neg hc]
end
def clsK : Nat → Str
  | 0 => "ArgumentError"
  | 1 => "PaperError"
  | 2 => "TooMany"
  | 3 => "CheckError"
  | 4 => "TextError"
  | 5 => "LogError"
  | _ => "CommandError"
def argK (n : Nat) (x y : D) : List D := if n = 5 then [x, y] else [x]
def gsK (n : Nat) (x y : D) : List (Str × D) := match n with
  | 4 => [("at", x)]
  | 5 => [("number", x), ("reason", y)]
  | 6 => [("line", x)]
  | _ => [("reason", x)]
def spRaise : DSp := fun ds S Q E => ∃ (n : Nat) (x y : D), ds = [.int n, x, y] ∧ n < 7 ∧ E (clsK n) (gsK n x y) S
theorem seven_or {n : Nat} (h : n < 7) : n = 0 ∨ n = 1 ∨ n = 2 ∨ n = 3 ∨ n = 4 ∨ n = 5 ∨ n = 6 := by omega
theorem kp_law_raise : Keeps [] 3 ir_law_raise spRaise := keeps_sub fun ds S Q E ⟨n, x, y, hds, hn, hE⟩ => by
  subst hds
  unfold body ir_law_raise
  simp only [List.map_cons, List.map_nil, List.length_cons, List.length_nil, List.replicate, List.cons_append, List.nil_append, Nat.reduceAdd, Nat.reduceSub]
  rcases seven_or hn with rfl | rfl | rfl | rfl | rfl | rfl | rfl <;> walk_at "wp"
  all_goals
    simp (config := { failIfUnchanged := false })
    exact ⟨S, .refl, hE⟩
/-! ### caught by the base: its kinds -/
def ir_caught : ISs := .cons (.trn (.cons (.ex (.fn 0 (.cons (.var 0) (.cons (.var 1) (.cons (.var 2) .nil))))) .nil) (.cons "TreeError" (some 3) (.cons (.ret (.fn 1 (.cons (.efld "__class__") .nil))) .nil) .nil)) (.cons (.ret (.lst .nil)) .nil)
def kindL (n : Nat) : List D := isE7.map fun c2 : Str => .bl (decide (clsK n = c2))
def spCaught : DSp := fun ds S Q E => ∃ (n : Nat) (x y : D), ds = [.int n, x, y] ∧ n < 7 ∧ ∀ p, S p = none → Q (.ref p) (put S p (.lst (kindL n)))
theorem above_tree {n : Nat} (h : n < 7) : ("TreeError" : Str) ∈ above (clsK n) := by
  rcases seven_or h with rfl | rfl | rfl | rfl | rfl | rfl | rfl <;> decide
theorem kp_law_caught : Keeps [spRaise, spKD] 4 ir_caught spCaught := keeps_sub fun ds S Q E ⟨n, x, y, hds, hn, hQ⟩ => by
  subst hds
  unfold body ir_caught
  simp only [List.map_cons, List.map_nil, List.length_cons, List.length_nil, List.replicate, List.cons_append, List.nil_append, Nat.reduceAdd, Nat.reduceSub]
  walk_at "wp"
  rw [zsw_trn]
  walk_at "wp"
  refine ⟨n, x, y, rfl, hn, ?_⟩
  show wpHs _ _ _ _ _ _ _
  rw [hs_hit (above_tree hn)]
  refine ⟨by simp [slotOk], ?_⟩
  walk_at "wp"
  simp only [wpE, gsX, List.lookup_cons, beq_self_eq_true]
  walk_at "wp"
  refine ⟨clsK n, rfl, fun p hp => ?_⟩
  exact ⟨_, .refl, hQ p hp⟩
def spFields : DSp := fun ds S Q E => ∃ (n : Nat) (x y : D), ds = [.int n, x, y] ∧ n < 7 ∧ Q (.tup (argK n x y)) S
theorem kp_law_fields : Keeps [spRaise] 4 ir_law_fields spFields := keeps_sub fun ds S Q E ⟨n, x, y, hds, hn, hQ⟩ => by
  subst hds
  unfold body ir_law_fields
  simp only [List.map_cons, List.map_nil, List.length_cons, List.length_nil, List.replicate, List.cons_append, List.nil_append, Nat.reduceAdd, Nat.reduceSub]
  walk_at "wp"
  rw [zsw_trn]
  walk_at "wp"
  refine ⟨n, x, y, rfl, hn, ?_⟩
  show wpHs _ _ _ _ _ _ _
  rcases seven_or hn with rfl | rfl | rfl | rfl | rfl | rfl | rfl
  all_goals
    repeat rw [hs_miss (by decide)]
    rw [hs_hit (by decide)]
    refine ⟨by simp [slotOk], ?_⟩
    walk_at "wp"
    refine ⟨S, .refl, ?_⟩
    exact hQ
end TA
set_option Elab.async false
set_option linter.all false
set_option maxRecDepth 100000
set_option maxHeartbeats 4000000
/-! TQ2: the limits, the law of k00. -/
namespace TA
open PySem PySem.Spec
local macro_rules | `(tactic| walk_at "wp") => `(tactic| try simp only [zgetV_0, zgetV_s, zw_var, zw_con, zw_bin, zw_tup, zw_lst, zw_nil, zw_cons, zw_neg, zw_nt, zw_an, zw_or, zw_cmp, zw_ite, zw_idx, zw_slc, zw_rev, zw_fn, zcallD_0, zcallD_s, zw_bi, zw_isi, zw_mt, zw_cmp2, zw_lc, zb_tr, zb_yes, zb_nt, zb_an, zb_or, zb_cmp, zb_cmp2, zi_ev, zi_rng, zi_enu, zit_tup, zit_str, zit_ref, zitT_tup, zrng_1, zs_nil, zs_cons, zsw_asg, zsw_asub, zsw_aug, zsw_ex, zsw_ret, zsw_iff, zsw_whl, zsw_frr, zsw_rse, zsw_pas, zt_nam, zt_tup, zts_nil, zts_cons, zo_addI, zo_addS, zo_addT, zo_addL, zo_subI, zo_mulI, zo_mulT, zo_mulL, zo_fdiv, zo_mod, zo_pow, zip_I, zip_L, zaddO_ll, zmulO_l, zipO_ll, zitO_l, ztr_non, ztr_bl, ztr_int, ztr_tup, ztr_ref, ztruO_l, zbi_len, zlen_tup, zlen_strK, zlen_ref, zlenO_l, zbi_int, zbi_abs, zbi_min2, zbi_tupT, zbi_tupL, ztupO_l, zbi_lstT, zbi_lstL, zlstO_l, zon_int, zbi_all, zallO_b, zix_tup, zix_ref, zixO_l, zix_str, zixK_0, zixK_1, zmt_app, zmt_pop, zat_l, zatO_l, zrv_app, zrv_pop, zsl_tup, zrv_tup, zpt_non, zpt_int, zc_isN, zc_isntN, zc_lt, zc_le, zc_gt, zc_ge, zc_eq, zc_ne, zc_in, zc_nin, zeq_int, List.set_cons_zero, List.set_cons_succ, wipe])
local macro_rules | `(tactic| walk_at "wps") => `(tactic| try simp only [zgetV_0, zgetV_s, zw_var, zw_con, zw_bin, zw_tup, zw_lst, zw_nil, zw_cons, zw_neg, zw_nt, zw_an, zw_or, zw_cmp, zw_ite, zw_idx, zw_slc, zw_rev, zw_fn, zcallD_0, zcallD_s, zw_bi, zw_isi, zw_mt, zw_cmp2, zw_lc, zb_tr, zb_yes, zb_nt, zb_an, zb_or, zb_cmp, zb_cmp2, zi_ev, zi_rng, zi_enu, zit_tup, zit_str, zit_ref, zitT_tup, zrng_1, zs_nil, zs_cons, zsw_asg, zsw_asub, zsw_aug, zsw_ex, zsw_ret, zsw_iff, zsw_whl, zsw_frr, zsw_rse, zsw_pas, zt_nam, zt_tup, zts_nil, zts_cons, zo_addI, zo_addS, zo_addT, zo_addL, zo_subI, zo_mulI, zo_mulT, zo_mulL, zo_fdiv, zo_mod, zo_pow, zip_I, zip_L, zaddO_ll, zmulO_l, zipO_ll, zitO_l, ztr_non, ztr_bl, ztr_int, ztr_tup, ztr_ref, ztruO_l, zbi_len, zlen_tup, zlen_strK, zlen_ref, zlenO_l, zbi_int, zbi_abs, zbi_min2, zbi_tupT, zbi_tupL, ztupO_l, zbi_lstT, zbi_lstL, zlstO_l, zon_int, zbi_all, zallO_b, zix_tup, zix_ref, zixO_l, zix_str, zixK_0, zixK_1, zmt_app, zmt_pop, zat_l, zatO_l, zrv_app, zrv_pop, zsl_tup, zrv_tup, zpt_non, zpt_int, zc_isN, zc_isntN, zc_lt, zc_le, zc_gt, zc_ge, zc_eq, zc_ne, zc_in, zc_nin, zeq_int, List.set_cons_zero, List.set_cons_succ, wipe, *])
theorem addL_use {S : Sto} {a : Addr} {xs ys : List D} {Q : DK} (ha : S a = some (.lst xs)) (hl : xs.length + ys.length ≤ line) (k : ∀ p3 S2, Sub S S2 → S2 p3 = some (.lst (xs ++ ys)) → Q (.ref p3) S2) : ∀ p, S p = none → addO (put S p (.lst ys)) Q (put S p (.lst ys) a) (put S p (.lst ys) p) := fun p hp => by
  rw [put_old hp ha, put_same, zaddO_ll]
  exact ⟨hl, fun q hq => k q _ ((Sub.refl.put hp).put (Sub.refl.put hp |>.none hq)) put_same⟩
theorem newL_use {S : Sto} {xs : List D} {Q : Addr → Sto → Prop} (k : ∀ p S2, Sub S S2 → S2 p = some (.lst xs) → Q p S2) : ∀ p, S p = none → Q p (put S p (.lst xs)) := fun p hp => k p _ (Sub.refl.put hp) put_same
theorem repr_eq {S : Sto} {a b : Addr} {xs : List D} {Q : Bool → Prop} (ha : S a = some (.lst xs)) (hb : S b = some (.lst xs)) (h1 : smDs xs = true) (h2 : dpDs xs ≤ 50) (h3 : szDs xs ≤ 10000) (k : Q true) :
    biD .repr [.ref a] S fun x S1 => biD .repr [.ref b] S1 fun y S2 => eqD S2 x y Q := by
  obtain ⟨p, e, sh, sw, hl, hok⟩ := list_pd S h1 h2 h3
  rw [zbi_repr]
  refine ⟨p, e a ha, sh, sw, hl, ?_⟩
  show biD .repr [.ref b] S fun y S2 => eqD S2 (.str p.shown) y Q
  rw [zbi_repr]
  refine ⟨p, e b hb, sh, sw, hl, ?_⟩
  show eqD S (.str p.shown) (.str p.shown) Q
  rw [zeq_str hok hok]
  simpa using k
def spLimits : DSp := fun ds S Q E => ds = [] ∧ Q (.bl true) S
theorem kp_law_limits_right : Keeps [] 2 ir_law_limits_right spLimits := keeps_sub fun ds S Q E ⟨hds, hQ⟩ => by
  subst hds
  unfold body ir_law_limits_right
  simp only [List.map_cons, List.map_nil, List.length_cons, List.length_nil, List.replicate, List.cons_append, List.nil_append, Nat.reduceAdd, Nat.reduceSub]
  walk_at "wp"
  intro p1 h1
  have sb1 : Sub S (put S p1 (.lst [D.int 12, D.int 60, D.int 12, D.int 10, D.int 3, D.int 6, D.int 6, D.int 1000, D.int 8])) := Sub.refl.put h1
  have g1 : put S p1 (.lst [D.int 12, D.int 60, D.int 12, D.int 10, D.int 3, D.int 6, D.int 6, D.int 1000, D.int 8]) p1 = some (.lst [D.int 12, D.int 60, D.int 12, D.int 10, D.int 3, D.int 6, D.int 6, D.int 1000, D.int 8]) := put_same
  generalize put S p1 (.lst [D.int 12, D.int 60, D.int 12, D.int 10, D.int 3, D.int 6, D.int 6, D.int 1000, D.int 8]) = S1 at sb1 g1 ⊢
  walk_at "wp"
  refine addL_use g1 (by simp only [List.length_cons, List.length_nil]; decide) fun p2 S2 sb2 g2 => ?_
  walk_at "wp"
  refine addL_use g2 (by simp only [List.length_cons, List.length_nil, List.cons_append, List.nil_append]; decide) fun p3 S3 sb3 g3 => ?_
  walk_at "wp"
  refine addL_use g3 (by simp only [List.length_cons, List.length_nil, List.cons_append, List.nil_append]; decide) fun p4 S4 sb4 g4 => ?_
  walk_at "wp"
  intro p5 h5
  have sb5 : Sub S4 (put S4 p5 (.lst [D.int 12, D.int 60, D.int 12, D.int 10, D.int 3, D.int 6, D.int 6, D.int 1000, D.int 8, D.int 24, D.int 6, D.int 40, D.int 4, D.int 8, D.int 8, D.int 30, D.int 4000, D.int 8, D.int 8, D.int 400, D.int 100, D.int 6])) := Sub.refl.put h5
  have g5 : put S4 p5 (.lst [D.int 12, D.int 60, D.int 12, D.int 10, D.int 3, D.int 6, D.int 6, D.int 1000, D.int 8, D.int 24, D.int 6, D.int 40, D.int 4, D.int 8, D.int 8, D.int 30, D.int 4000, D.int 8, D.int 8, D.int 400, D.int 100, D.int 6]) p5 = some (.lst [D.int 12, D.int 60, D.int 12, D.int 10, D.int 3, D.int 6, D.int 6, D.int 1000, D.int 8, D.int 24, D.int 6, D.int 40, D.int 4, D.int 8, D.int 8, D.int 30, D.int 4000, D.int 8, D.int 8, D.int 400, D.int 100, D.int 6]) := put_same
  generalize put S4 p5 (.lst [D.int 12, D.int 60, D.int 12, D.int 10, D.int 3, D.int 6, D.int 6, D.int 1000, D.int 8, D.int 24, D.int 6, D.int 40, D.int 4, D.int 8, D.int 8, D.int 30, D.int 4000, D.int 8, D.int 8, D.int 400, D.int 100, D.int 6]) = S5 at sb5 g5 ⊢
  walk_at "wp"
  refine addL_use g5 (by simp only [List.length_cons, List.length_nil]; decide) fun p6 S6 sb6 g6 => ?_
  walk_at "wp"
  have g4' := sb6 _ _ (sb5 _ _ g4)
  refine repr_eq g4' g6 (by decide +kernel) (by decide +kernel) (by decide +kernel) ?_
  exact ⟨S, ((((sb1.trans sb2).trans sb3).trans sb4).trans sb5).trans sb6, hQ⟩
end TA
set_option Elab.async false
set_option linter.all false
set_option maxRecDepth 100000
set_option maxHeartbeats 4000000
/-! TQ3: the law of k00. -/
namespace TA
open PySem PySem.Spec
local macro_rules | `(tactic| walk_at "wp") => `(tactic| try simp only [zgetV_0, zgetV_s, zw_var, zw_con, zw_bin, zw_tup, zw_lst, zw_nil, zw_cons, zw_neg, zw_nt, zw_an, zw_or, zw_cmp, zw_ite, zw_idx, zw_slc, zw_rev, zw_fn, zcallD_0, zcallD_s, zw_bi, zw_isi, zw_mt, zw_cmp2, zw_lc, zb_tr, zb_yes, zb_nt, zb_an, zb_or, zb_cmp, zb_cmp2, zi_ev, zi_rng, zi_enu, zit_tup, zit_str, zit_ref, zitT_tup, zrng_1, zs_nil, zs_cons, zsw_asg, zsw_asub, zsw_aug, zsw_ex, zsw_ret, zsw_iff, zsw_whl, zsw_frr, zsw_rse, zsw_pas, zt_nam, zt_tup, zts_nil, zts_cons, zo_addI, zo_addS, zo_addT, zo_addL, zo_subI, zo_mulI, zo_mulT, zo_mulL, zo_fdiv, zo_mod, zo_pow, zip_I, zip_L, zaddO_ll, zmulO_l, zipO_ll, zitO_l, ztr_non, ztr_bl, ztr_int, ztr_tup, ztr_ref, ztruO_l, zbi_len, zlen_tup, zlen_strK, zlen_ref, zlenO_l, zbi_int, zbi_abs, zbi_min2, zbi_tupT, zbi_tupL, ztupO_l, zbi_lstT, zbi_lstL, zlstO_l, zon_int, zbi_all, zallO_b, zix_tup, zix_ref, zixO_l, zix_str, zixK_0, zixK_1, zmt_app, zmt_pop, zat_l, zatO_l, zrv_app, zrv_pop, zsl_tup, zrv_tup, zpt_non, zpt_int, zc_isN, zc_isntN, zc_lt, zc_le, zc_gt, zc_ge, zc_eq, zc_ne, zc_in, zc_nin, zeq_int, List.set_cons_zero, List.set_cons_succ, wipe])
local macro_rules | `(tactic| walk_at "wps") => `(tactic| try simp only [zgetV_0, zgetV_s, zw_var, zw_con, zw_bin, zw_tup, zw_lst, zw_nil, zw_cons, zw_neg, zw_nt, zw_an, zw_or, zw_cmp, zw_ite, zw_idx, zw_slc, zw_rev, zw_fn, zcallD_0, zcallD_s, zw_bi, zw_isi, zw_mt, zw_cmp2, zw_lc, zb_tr, zb_yes, zb_nt, zb_an, zb_or, zb_cmp, zb_cmp2, zi_ev, zi_rng, zi_enu, zit_tup, zit_str, zit_ref, zitT_tup, zrng_1, zs_nil, zs_cons, zsw_asg, zsw_asub, zsw_aug, zsw_ex, zsw_ret, zsw_iff, zsw_whl, zsw_frr, zsw_rse, zsw_pas, zt_nam, zt_tup, zts_nil, zts_cons, zo_addI, zo_addS, zo_addT, zo_addL, zo_subI, zo_mulI, zo_mulT, zo_mulL, zo_fdiv, zo_mod, zo_pow, zip_I, zip_L, zaddO_ll, zmulO_l, zipO_ll, zitO_l, ztr_non, ztr_bl, ztr_int, ztr_tup, ztr_ref, ztruO_l, zbi_len, zlen_tup, zlen_strK, zlen_ref, zlenO_l, zbi_int, zbi_abs, zbi_min2, zbi_tupT, zbi_tupL, ztupO_l, zbi_lstT, zbi_lstL, zlstO_l, zon_int, zbi_all, zallO_b, zix_tup, zix_ref, zixO_l, zix_str, zixK_0, zixK_1, zmt_app, zmt_pop, zat_l, zatO_l, zrv_app, zrv_pop, zsl_tup, zrv_tup, zpt_non, zpt_int, zc_isN, zc_isntN, zc_lt, zc_le, zc_gt, zc_ge, zc_eq, zc_ne, zc_in, zc_nin, zeq_int, List.set_cons_zero, List.set_cons_succ, wipe, *])
abbrev Γ0 : List DSp := [spDraws, spLimits, spOne, spCaught, spFields]
def valsL : List D := [.str "word", .str "", .str "form", .int 0, .int 17, .int (-3), .non, .tup [.str "a", .int 5], .str "a line", .bl true]
theorem vals_fine : ∀ x ∈ valsL, smD x = true ∧ dpD x ≤ 1 ∧ szD x ≤ 5 := by decide +kernel
def spLaw : DSp := fun ds S Q E => ∃ a ns, ds = [.ref a] ∧ S a = some (.fzl (iL ns)) ∧ Q (.bl true) S
theorem mem_rng7 {d : D} (h : d ∈ rngs 0 7) : ∃ n : Nat, d = .int (n : Nat) ∧ n < 7 := by
  unfold rngs at h
  obtain ⟨j, hj, rfl⟩ := List.mem_map.mp h
  have := List.mem_range.mp hj
  exact ⟨j, by simp, by simpa using this⟩
theorem kp_law : Keeps Γ0 8 ir_law spLaw := keeps_sub fun ds S Q E ⟨a, ns, hds, ha, hQ⟩ => by
  subst hds
  unfold body ir_law
  simp only [List.map_cons, List.map_nil, List.length_cons, List.length_nil, List.replicate, List.cons_append, List.nil_append, Nat.reduceAdd, Nat.reduceSub]
  walk_at "wp"
  refine ⟨a, ns, rfl, ha, fun da ms hda hms => ?_⟩
  walk_at "wp"
  intro aa haa
  have hne : da ≠ aa := fun e => by subst e; rw [put_same] at haa; cases haa
  have hSa : S aa = none := by rw [put_ne (Ne.symm hne)] at haa; exact haa
  have hD : DrS (put (put S da (.lst (iL ms))) aa (.lst [.int 0])) da aa := ⟨ms, 0, by rw [put_ne hne, put_same], hms, put_same, by decide, hne⟩
  have sb : Sub S (put (put S da (.lst (iL ms))) aa (.lst [.int 0])) := (Sub.refl.put hda).put hSa
  generalize put (put S da (.lst (iL ms))) aa (.lst [.int 0]) = S1 at hD sb
  walk_at "wp"
  refine ⟨rfl, ?_⟩
  simp only [Bool.not_true, Bool.false_eq_true, if_false]
  walk_at "wp"
  intro vv hvv
  have hva : vv ≠ aa := fun e => by
    obtain ⟨_, _, _, _, h3, _, _⟩ := hD
    subst e; rw [hvv] at h3; cases h3
  have hD1 : DrS (put S1 vv (.lst valsL)) da aa := hD.old (Sub.refl.put hvv)
  have sb1 : Sub S (put S1 vv (.lst valsL)) := sb.put (sb.none hvv)
  have hV : put S1 vv (.lst valsL) vv = some (.lst valsL) := put_same
  refine ⟨by decide, by decide, ?_⟩
  show loopD _ _ _ _ _ _ (put S1 vv (.lst valsL))
  generalize put S1 vv (.lst valsL) = S2 at hD1 sb1 hV
  refine loopD_ind (fun r σ S' => (∀ d ∈ r, ∃ n : Nat, d = .int (n : Nat) ∧ n < 7) ∧ DrS S' da aa ∧ Sub S S' ∧ S' vv = some (.lst valsL) ∧ ∃ x4 x5 x6 x7 : Option D, σ = [some (.ref a), some (.ref da), some (.ref aa), some (.ref vv), x4, x5, x6, x7]) (fun _ _ _ _ => trivial) ?_ ?_ _ _ _ ⟨fun d hd => mem_rng7 hd, hD1, sb1, hV, _, _, _, _, rfl⟩
  · rintro x r σ S3 nx ⟨hr, hD3, sb3, hV3, x4, x5, x6, x7, rfl⟩ hnx
    obtain ⟨n, rfl, hn⟩ := hr x List.mem_cons_self
    walk_at "wp"
    refine ⟨.ref vv, valsL, da, aa, rfl, .inr ⟨vv, rfl, hV3, hva⟩, by unfold valsL; simp, hD3, fun u hu p hp => ?_⟩
    have hD4 := hD3.adv hp
    have hV4 : adv S3 aa p vv = some (.lst valsL) := by rw [adv_ne hva]; exact hV3
    have sb4 : Sub S (adv S3 aa p) := fun b o hb => by
      rw [adv_ne (fun e => by subst e; rw [hSa] at hb; cases hb)]; exact sb3 _ _ hb
    generalize adv S3 aa p = S4 at hD4 hV4 sb4
    refine ⟨.ref vv, valsL, da, aa, rfl, .inr ⟨vv, rfl, hV4, hva⟩, by unfold valsL; simp, hD4, fun v hv p2 hp2 => ?_⟩
    have hD5 := hD4.adv hp2
    have hV5 : adv S4 aa p2 vv = some (.lst valsL) := by rw [adv_ne hva]; exact hV4
    have sb5 : Sub S (adv S4 aa p2) := fun b o hb => by
      rw [adv_ne (fun e => by subst e; rw [hSa] at hb; cases hb)]; exact sb4 _ _ hb
    generalize adv S4 aa p2 = S5 at hD5 hV5 sb5
    walk_at "wp"
    refine ⟨n, u, v, rfl, hn, fun q1 hq1 => ?_⟩
    walk_at "wp"
    refine ⟨by decide, by decide, ?_⟩
    have hL : put S5 q1 (.lst (kindL n)) q1 = some (.lst (kindL n)) := put_same
    have hD6 := hD5.old ((Sub.refl (S := S5)).put (o := .lst (kindL n)) hq1)
    have hV6 := put_old (o := .lst (kindL n)) hq1 hV5
    have sb6 := sb5.put (o := .lst (kindL n)) (sb5.none hq1)
    generalize put S5 q1 (.lst (kindL n)) = S6 at hL hD6 hV6 sb6
    refine lcD_map (chk := fun _ => True) (S := S6) (fun d => match d with | .int w => .bl (decide (w = n)) | _ => .non) trivial _ _ (fun d hd acc K hK => ?_) ?_
    · obtain ⟨j, rfl, hj⟩ := mem_rng7 hd
      walk_at "wp"
      rw [if_pos trivial]
      exact hK
    · intro q2 hq2
      walk_at "wp"
      have e : [] ++ (rngs 0 7).map (fun d => match d with | .int w => D.bl (decide (w = n)) | _ => .non) = kindL n := by
        rcases seven_or hn with rfl | rfl | rfl | rfl | rfl | rfl | rfl <;> kernel_rfl
      rw [e]
      have hs : smDs (kindL n) = true ∧ dpDs (kindL n) = 0 := by
        rcases seven_or hn with rfl | rfl | rfl | rfl | rfl | rfl | rfl <;> decide +kernel
      refine eq_lists (put_old hq2 hL) put_same hs.1 (by rw [hs.2]; decide) ?_
      simp only [Bool.not_true, Bool.false_eq_true, if_false]
      have hD7 := hD6.old ((Sub.refl (S := S6)).put (o := .lst (kindL n)) hq2)
      have hV7 := put_old (o := .lst (kindL n)) hq2 hV6
      have sb7 := sb6.put (o := .lst (kindL n)) (sb6.none hq2)
      generalize put S6 q2 (.lst (kindL n)) = S7 at hD7 hV7 sb7
      walk_at "wp"
      refine ⟨n, u, v, rfl, hn, ?_⟩
      have fu := vals_fine u hu
      have fv := vals_fine v hv
      have ff : fineD (.tup (argK n u v)) := by
        unfold argK
        split
        · refine ⟨?_, ?_, ?_⟩
          · simp only [smD, smDs, fu.1, fv.1, Bool.and_self]
          · simp only [dpD, dpDs]; omega
          · simp only [szD, szDs]; omega
        · refine ⟨?_, ?_, ?_⟩
          · simp only [smD, smDs, fu.1, Bool.and_self]
          · simp only [dpD, dpDs]; omega
          · simp only [szD, szDs]; omega
      obtain ⟨q, hq, sh, sw, hl, hok, lay⟩ := fine_pd ff S7
      have fin : ∀ K : Prop, K → eqD S7 (.str q.shown) (.str q.shown) fun b => if (!b) = true then ∃ S2, Sub S2 S7 ∧ Q (.bl false) S2 else K := fun K k => by
        rw [zeq_str hok hok]
        simpa using k
      have hend : nx [some (.ref a), some (.ref da), some (.ref aa), some (.ref vv), some (.int (n : Nat)), some u, some v, x7] S7 := hnx _ _ ⟨fun d hd => hr d (List.mem_cons_of_mem _ hd), hD7, sb7, hV7, _, _, _, _, rfl⟩
      by_cases h5 : n = 5
      · subst h5
        have ea : argK 5 u v = [u, v] := rfl
        rw [ea] at hq ⊢
        have e5 : decide (((5 : Nat) : Int) = 5) = true := rfl
        simp only [zbi_repr, e5, if_true]
        exact ⟨q, hq, sh, sw, hl, q, hq, sh, sw, hl, fin _ hend⟩
      · have ea : argK n u v = [u] := if_neg h5
        rw [ea] at hq ⊢
        have e5 : decide (((n : Nat) : Int) = 5) = false := decide_eq_false (by omega)
        simp only [zbi_repr, e5, Bool.false_eq_true, if_false]
        exact ⟨q, hq, sh, sw, hl, q, hq, sh, sw, hl, fin _ hend⟩
  · rintro σ S' ⟨_, _, sb', _, x4, x5, x6, x7, rfl⟩
    walk_at "wp"
    exact ⟨S, sb', hQ⟩
end TA
set_option Elab.async false
set_option linter.all false
set_option maxRecDepth 100000
set_option maxHeartbeats 0
namespace Hd
open PySem PySem.Spec PyProof.Rows L2
def top (i : Nat) : Stmt := PySem.Challenge.pw_treeasked_k00_errors_and_limits.main.body.getD i (.Pass ⟨0, 0, 0, 0⟩)
def mth (st : Stmt) (j : Nat) : Stmt := match st with
  | .ClassDef _ _ _ b _ _ _ _ _ _ _ => b.getD j (.Pass ⟨0, 0, 0, 0⟩)
  | _ => .Pass ⟨0, 0, 0, 0⟩
def names : List PySem.Str := [("TreeError" : PySem.Str), ("ReasonError" : PySem.Str), ("ArgumentError" : PySem.Str), ("PaperError" : PySem.Str), ("TooMany" : PySem.Str), ("CheckError" : PySem.Str), ("TextError" : PySem.Str), ("LogError" : PySem.Str), ("CommandError" : PySem.Str), ("MAX_NAME" : PySem.Str), ("MAX_NODES" : PySem.Str), ("MAX_DEEP" : PySem.Str), ("MAX_PATTERN" : PySem.Str), ("MAX_COUNT" : PySem.Str), ("MAX_WATCHED" : PySem.Str), ("MAX_LABELS" : PySem.Str), ("MAX_CASES" : PySem.Str), ("MAX_BOUNDS" : PySem.Str), ("MAX_CONTENT" : PySem.Str), ("MAX_ROW" : PySem.Str)] ++ [("MAX_CHANGES" : PySem.Str), ("MAX_FIELDS" : PySem.Str), ("MAX_KEYS" : PySem.Str), ("MAX_STEPS" : PySem.Str), ("MAX_NESTED" : PySem.Str), ("MAX_TEXT" : PySem.Str), ("MAX_RULES" : PySem.Str), ("MAX_TREES" : PySem.Str), ("MAX_LEARNT" : PySem.Str), ("MAX_LINES" : PySem.Str), ("MAX_VIEWS" : PySem.Str), ("MAX_COUNTED" : PySem.Str), ("MAX_JOINED" : PySem.Str), ("MAX_PACK" : PySem.Str), ("MAX_REWRITTEN" : PySem.Str), ("MAX_WALKED" : PySem.Str), ("MAX_WEIGHT" : PySem.Str), ("MAX_COLUMNS" : PySem.Str), ("MAX_TIES" : PySem.Str), ("MAX_TABLE" : PySem.Str)] ++ [("_law_draws" : PySem.Str), ("_law_more" : PySem.Str), ("_law_take" : PySem.Str), ("_law_one" : PySem.Str), ("_law_limits_right" : PySem.Str), ("_law_raise" : PySem.Str), ("_law_kinds" : PySem.Str), ("_law_caught" : PySem.Str), ("_law_fields" : PySem.Str)]
def d42 : He.DefD := ⟨("_law_draws", none), "_law_draws", "_law_draws", defArgs (top 42), defBody (top 42), defScope (top 42), [], []⟩
def d43 : He.DefD := ⟨("_law_more", none), "_law_more", "_law_more", defArgs (top 43), defBody (top 43), defScope (top 43), [], []⟩
def d44 : He.DefD := ⟨("_law_take", none), "_law_take", "_law_take", defArgs (top 44), defBody (top 44), defScope (top 44), [], []⟩
def d45 : He.DefD := ⟨("_law_one", none), "_law_one", "_law_one", defArgs (top 45), defBody (top 45), defScope (top 45), [], []⟩
def d46 : He.DefD := ⟨("_law_limits_right", none), "_law_limits_right", "_law_limits_right", defArgs (top 46), defBody (top 46), defScope (top 46), [], []⟩
def d47 : He.DefD := ⟨("_law_raise", none), "_law_raise", "_law_raise", defArgs (top 47), defBody (top 47), defScope (top 47), [], []⟩
def d48 : He.DefD := ⟨("_law_kinds", none), "_law_kinds", "_law_kinds", defArgs (top 48), defBody (top 48), defScope (top 48), [], []⟩
def d49 : He.DefD := ⟨("_law_caught", none), "_law_caught", "_law_caught", defArgs (top 49), defBody (top 49), defScope (top 49), [], []⟩
def d50 : He.DefD := ⟨("_law_fields", none), "_law_fields", "_law_fields", defArgs (top 50), defBody (top 50), defScope (top 50), [], []⟩
def d51 : He.DefD := ⟨("law", none), "law", "law", defArgs (top 51), defBody (top 51), defScope (top 51), [], []⟩
def i2 : TA.InD := ⟨"ReasonError", "ReasonError.__init__", defArgs (mth (top 2) 0), defBody (mth (top 2) 0), defScope (mth (top 2) 0)⟩
def i7 : TA.InD := ⟨"TextError", "TextError.__init__", defArgs (mth (top 7) 0), defBody (mth (top 7) 0), defScope (mth (top 7) 0)⟩
def i8 : TA.InD := ⟨"LogError", "LogError.__init__", defArgs (mth (top 8) 0), defBody (mth (top 8) 0), defScope (mth (top 8) 0)⟩
def i9 : TA.InD := ⟨"CommandError", "CommandError.__init__", defArgs (mth (top 9) 0), defBody (mth (top 9) 0), defScope (mth (top 9) 0)⟩
def fn : List He.DefD := [d42, d43, d44, d45, d46, d47, d48, d49, d50, d51]
def fa : List He.Fa := [.glo "_law_draws", .glo "_law_more", .glo "_law_take", .glo "_law_one", .glo "_law_limits_right", .glo "_law_raise", .glo "_law_kinds", .glo "_law_caught", .glo "_law_fields", .glo "law", .glo "TreeError", .glo "ArgumentError", .glo "PaperError", .glo "TooMany", .glo "CheckError", .glo "TextError", .glo "LogError", .glo "CommandError", .free "len", .free "all"] ++ [.free "any", .free "sum", .free "min", .free "max", .free "sorted", .free "tuple", .free "list", .free "dict", .free "abs", .free "int", .free "repr", .free "str", .free "isinstance", .free "ValueError", .free "range", .free "enumerate", .free "zip", .free "bool", .free "super", .int "MAX_NESTED" (30), .int "MAX_TREES" (8)] ++ [.int "MAX_COUNT" (3), .int "MAX_COLUMNS" (3), .int "MAX_TABLE" (4000), .int "MAX_RULES" (8), .int "MAX_FIELDS" (4), .int "MAX_TIES" (6), .int "MAX_DEEP" (12), .int "MAX_NODES" (60), .int "MAX_PATTERN" (10), .int "MAX_CASES" (1000), .int "MAX_WATCHED" (6), .int "MAX_ROW" (6), .int "MAX_CHANGES" (40), .int "MAX_WALKED" (300), .int "MAX_NAME" (12), .int "MAX_STEPS" (8), .int "MAX_BOUNDS" (8), .int "MAX_PACK" (8), .int "MAX_COUNTED" (12), .int "MAX_WEIGHT" (1000000)] ++ [.int "MAX_LABELS" (6), .int "MAX_VIEWS" (6), .int "MAX_TEXT" (4000), .int "MAX_LINES" (100), .int "MAX_CONTENT" (24), .int "MAX_KEYS" (8), .int "MAX_LEARNT" (400), .int "MAX_JOINED" (16), .int "MAX_REWRITTEN" (60)]
def hd : TA.HeadD := ⟨fa, fn, [i2, i7, i8, i9], [("ArgumentError" : PySem.Str), ("PaperError" : PySem.Str), ("TooMany" : PySem.Str), ("CheckError" : PySem.Str), ("TextError" : PySem.Str), ("LogError" : PySem.Str), ("CommandError" : PySem.Str)], PySem.Challenge.pw_treeasked_k00_errors_and_limits.main.file, []⟩
abbrev R : PySem.W.OpenRow := PySem.W.OpenLaw.row PySem.Challenge.rw_treeasked_k00_errors_and_limits
abbrev hk : PySem.W.Hook := TA.hookY 4 hd
def ob (s : PySem.W.SharedT) : TA.AlY := TA.obsYG 4 hd (HandSHeadRun.getT s)
theorem ob_eq (s : PySem.W.SharedT) : ob s = hk.obs s.abs := TA.obsYG_eq (HandSHeadRun.getT_eq s)
end Hd
set_option Elab.async false
set_option linter.all false
set_option maxRecDepth 100000
set_option maxHeartbeats 4000000
/-! TW1: every def of the law, what it promises. -/
namespace TA
open PySem PySem.Spec L2 PyProof.Rows
section
variable {P : Program} {w : World} {K : PySem.W.Frag} {mg : Str → Option Value} {base : Heap}
theorem fnAt_no {d : HeadD} (T : TopF d P w K mg base) {dd : He.DefD} {x : Str} {ps : List Str} {k : Nat} (hd : dd ∈ d.fn) (hat : dd.at_ = (x, none)) (hdf : dd.dfl = []) (hkw : dd.kwd = []) (hglo : faGlo d.fa x = true) (hp : okPs dd ps) : FnAt P w K mg base x k noSp := by
  obtain ⟨i, hi⟩ := List.getElem?_of_mem hd
  obtain ⟨fd, F⟩ := T.c.says.def_ i hi
  rw [hat] at F
  have F' : FunD K dd.name dd.qual dd.params dd.body dd.scope [] [] (clA K x) fd := by
    have e1 : dd.dvs K = [] := by unfold He.DefD.dvs; rw [hdf]; rfl
    have e2 : dd.kws K = [] := by unfold He.DefD.kws; rw [hkw]; rfl
    rw [e1, e2] at F; exact F
  refine ⟨_, fd, ps, ⟨fun vs H Q E h => ?_, fun A outer s H args us vs Q E g hr e0 hb hv h => ?_⟩, T.glo hglo, F'.kp, F'.bindsN hp⟩
  · obtain ⟨_, _, _, _, _, _, h, _⟩ := h; exact h.elim
  · obtain ⟨_, _, _, _, _, _, h, _⟩ := h; exact h.elim
theorem FnsAt.nil {k : Nat} : FnsAt P w K mg base k [] [] := trivial
theorem FnsAt.cons {k : Nat} {x : Str} {sp : DSp} {xs : List Str} {Γ : List DSp} (h : FnAt P w K mg base x k sp) (r : FnsAt P w K mg base k xs Γ) : FnsAt P w K mg base k (x :: xs) (sp :: Γ) := ⟨h, r⟩
theorem hbiK : biNames.all (fun x => faFree Hd.hd.fa x) = true := by kernel_rfl
theorem ps_law_draws : okPs Hd.d42 [("script" : Str)] := fun _ _ _ _ _ _ us hl => match us, hl with | [_], _ => by kernel_rfl
theorem mm_law_draws : Hd.d42 ∈ Hd.hd.fn := by unfold Hd.hd Hd.fn; simp only [List.mem_append, List.mem_cons, true_or, or_true]
theorem glo_law_draws : faGlo Hd.hd.fa "_law_draws" = true := by kernel_rfl
theorem sc_law_draws : C8.scC cc_law_draws.N [("script" : Str)] Hd.d42.scope = true := by kernel_rfl
theorem cs_law_draws : cSs cc_law_draws 60 Hd.d42.scope Hd.d42.body = some ir_law_draws := by kernel_rfl
theorem at_law_draws (T : TopF Hd.hd P w K mg base) : FnAt P w K mg base "_law_draws" 3 spDraws := fnAt_of T (dd := Hd.d42) (ps := [("script" : Str)]) (C := cc_law_draws) (m := 60) (k := 2) mm_law_draws rfl rfl rfl glo_law_draws sc_law_draws cs_law_draws (by decide) FnsAt.nil (by kernel_rfl) hbiK (by kernel_rfl) ps_law_draws (fun ds S Q E h => by first | (obtain ⟨rfl, _⟩ := h; rfl) | (obtain ⟨_, rfl, _⟩ := h; rfl) | (obtain ⟨_, _, rfl, _⟩ := h; rfl) | (obtain ⟨_, _, _, rfl, _⟩ := h; rfl) | (obtain ⟨_, _, _, _, rfl, _⟩ := h; rfl)) kp_law_draws
theorem ps_law_more : okPs Hd.d43 [("draws" : Str), ("place" : Str)] := fun _ _ _ _ _ _ us hl => match us, hl with | [_, _], _ => by kernel_rfl
theorem mm_law_more : Hd.d43 ∈ Hd.hd.fn := by unfold Hd.hd Hd.fn; simp only [List.mem_append, List.mem_cons, true_or, or_true]
theorem glo_law_more : faGlo Hd.hd.fa "_law_more" = true := by kernel_rfl
theorem sc_law_more : C8.scC cc_law_more.N [("draws" : Str), ("place" : Str)] Hd.d43.scope = true := by kernel_rfl
theorem cs_law_more : cSs cc_law_more 60 Hd.d43.scope Hd.d43.body = some ir_law_more := by kernel_rfl
theorem at_law_more (T : TopF Hd.hd P w K mg base) : FnAt P w K mg base "_law_more" 3 spMore := fnAt_of T (dd := Hd.d43) (ps := [("draws" : Str), ("place" : Str)]) (C := cc_law_more) (m := 60) (k := 2) mm_law_more rfl rfl rfl glo_law_more sc_law_more cs_law_more (by decide) FnsAt.nil (by kernel_rfl) hbiK (by kernel_rfl) ps_law_more (fun ds S Q E h => by first | (obtain ⟨rfl, _⟩ := h; rfl) | (obtain ⟨_, rfl, _⟩ := h; rfl) | (obtain ⟨_, _, rfl, _⟩ := h; rfl) | (obtain ⟨_, _, _, rfl, _⟩ := h; rfl) | (obtain ⟨_, _, _, _, rfl, _⟩ := h; rfl)) kp_law_more
theorem ps_law_take : okPs Hd.d44 [("draws" : Str), ("at" : Str), ("many" : Str)] := fun _ _ _ _ _ _ us hl => match us, hl with | [_, _, _], _ => by kernel_rfl
theorem mm_law_take : Hd.d44 ∈ Hd.hd.fn := by unfold Hd.hd Hd.fn; simp only [List.mem_append, List.mem_cons, true_or, or_true]
theorem glo_law_take : faGlo Hd.hd.fa "_law_take" = true := by kernel_rfl
theorem sc_law_take : C8.scC cc_law_take.N [("draws" : Str), ("at" : Str), ("many" : Str)] Hd.d44.scope = true := by kernel_rfl
theorem cs_law_take : cSs cc_law_take 60 Hd.d44.scope Hd.d44.body = some ir_law_take := by kernel_rfl
theorem at_law_take (T : TopF Hd.hd P w K mg base) : FnAt P w K mg base "_law_take" 4 spTake := fnAt_of T (dd := Hd.d44) (ps := [("draws" : Str), ("at" : Str), ("many" : Str)]) (C := cc_law_take) (m := 60) (k := 3) mm_law_take rfl rfl rfl glo_law_take sc_law_take cs_law_take (by decide) (FnsAt.cons ((at_law_more T).mono (by decide)) FnsAt.nil) (by kernel_rfl) hbiK (by kernel_rfl) ps_law_take (fun ds S Q E h => by first | (obtain ⟨rfl, _⟩ := h; rfl) | (obtain ⟨_, rfl, _⟩ := h; rfl) | (obtain ⟨_, _, rfl, _⟩ := h; rfl) | (obtain ⟨_, _, _, rfl, _⟩ := h; rfl) | (obtain ⟨_, _, _, _, rfl, _⟩ := h; rfl)) kp_law_take
theorem ps_law_one : okPs Hd.d45 [("rows" : Str), ("draws" : Str), ("at" : Str)] := fun _ _ _ _ _ _ us hl => match us, hl with | [_, _, _], _ => by kernel_rfl
theorem mm_law_one : Hd.d45 ∈ Hd.hd.fn := by unfold Hd.hd Hd.fn; simp only [List.mem_append, List.mem_cons, true_or, or_true]
theorem glo_law_one : faGlo Hd.hd.fa "_law_one" = true := by kernel_rfl
theorem sc_law_one : C8.scC cc_law_one.N [("rows" : Str), ("draws" : Str), ("at" : Str)] Hd.d45.scope = true := by kernel_rfl
theorem cs_law_one : cSs cc_law_one 60 Hd.d45.scope Hd.d45.body = some ir_law_one := by kernel_rfl
theorem at_law_one (T : TopF Hd.hd P w K mg base) : FnAt P w K mg base "_law_one" 5 spOne := fnAt_of T (dd := Hd.d45) (ps := [("rows" : Str), ("draws" : Str), ("at" : Str)]) (C := cc_law_one) (m := 60) (k := 4) mm_law_one rfl rfl rfl glo_law_one sc_law_one cs_law_one (by decide) (FnsAt.cons ((at_law_take T).mono (by decide)) FnsAt.nil) (by kernel_rfl) hbiK (by kernel_rfl) ps_law_one (fun ds S Q E h => by first | (obtain ⟨rfl, _⟩ := h; rfl) | (obtain ⟨_, rfl, _⟩ := h; rfl) | (obtain ⟨_, _, rfl, _⟩ := h; rfl) | (obtain ⟨_, _, _, rfl, _⟩ := h; rfl) | (obtain ⟨_, _, _, _, rfl, _⟩ := h; rfl)) kp_law_one
theorem ps_law_limits_right : okPs Hd.d46 [] := fun _ _ _ _ _ _ us hl => match us, hl with | [], _ => by kernel_rfl
theorem mm_law_limits_right : Hd.d46 ∈ Hd.hd.fn := by unfold Hd.hd Hd.fn; simp only [List.mem_append, List.mem_cons, true_or, or_true]
theorem glo_law_limits_right : faGlo Hd.hd.fa "_law_limits_right" = true := by kernel_rfl
theorem sc_law_limits_right : C8.scC cc_law_limits_right.N [] Hd.d46.scope = true := by kernel_rfl
theorem cs_law_limits_right : cSs cc_law_limits_right 60 Hd.d46.scope Hd.d46.body = some ir_law_limits_right := by kernel_rfl
theorem at_law_limits_right (T : TopF Hd.hd P w K mg base) : FnAt P w K mg base "_law_limits_right" 3 spLimits := fnAt_of T (dd := Hd.d46) (ps := []) (C := cc_law_limits_right) (m := 60) (k := 2) mm_law_limits_right rfl rfl rfl glo_law_limits_right sc_law_limits_right cs_law_limits_right (by decide) FnsAt.nil (by kernel_rfl) hbiK (by kernel_rfl) ps_law_limits_right (fun ds S Q E h => by first | (obtain ⟨rfl, _⟩ := h; rfl) | (obtain ⟨_, rfl, _⟩ := h; rfl) | (obtain ⟨_, _, rfl, _⟩ := h; rfl) | (obtain ⟨_, _, _, rfl, _⟩ := h; rfl) | (obtain ⟨_, _, _, _, rfl, _⟩ := h; rfl)) kp_law_limits_right
theorem ps_law_raise : okPs Hd.d47 [("k" : Str), ("one" : Str), ("other" : Str)] := fun _ _ _ _ _ _ us hl => match us, hl with | [_, _, _], _ => by kernel_rfl
theorem mm_law_raise : Hd.d47 ∈ Hd.hd.fn := by unfold Hd.hd Hd.fn; simp only [List.mem_append, List.mem_cons, true_or, or_true]
theorem glo_law_raise : faGlo Hd.hd.fa "_law_raise" = true := by kernel_rfl
theorem sc_law_raise : C8.scC cc_law_raise.N [("k" : Str), ("one" : Str), ("other" : Str)] Hd.d47.scope = true := by kernel_rfl
theorem cs_law_raise : cSs cc_law_raise 60 Hd.d47.scope Hd.d47.body = some ir_law_raise := by kernel_rfl
theorem at_law_raise (T : TopF Hd.hd P w K mg base) : FnAt P w K mg base "_law_raise" 3 spRaise := fnAt_of T (dd := Hd.d47) (ps := [("k" : Str), ("one" : Str), ("other" : Str)]) (C := cc_law_raise) (m := 60) (k := 2) mm_law_raise rfl rfl rfl glo_law_raise sc_law_raise cs_law_raise (by decide) FnsAt.nil (by kernel_rfl) hbiK (by kernel_rfl) ps_law_raise (fun ds S Q E h => by first | (obtain ⟨rfl, _⟩ := h; rfl) | (obtain ⟨_, rfl, _⟩ := h; rfl) | (obtain ⟨_, _, rfl, _⟩ := h; rfl) | (obtain ⟨_, _, _, rfl, _⟩ := h; rfl) | (obtain ⟨_, _, _, _, rfl, _⟩ := h; rfl)) kp_law_raise
theorem ps_law_fields : okPs Hd.d50 [("k" : Str), ("one" : Str), ("other" : Str)] := fun _ _ _ _ _ _ us hl => match us, hl with | [_, _, _], _ => by kernel_rfl
theorem mm_law_fields : Hd.d50 ∈ Hd.hd.fn := by unfold Hd.hd Hd.fn; simp only [List.mem_append, List.mem_cons, true_or, or_true]
theorem glo_law_fields : faGlo Hd.hd.fa "_law_fields" = true := by kernel_rfl
theorem sc_law_fields : C8.scC cc_law_fields.N [("k" : Str), ("one" : Str), ("other" : Str)] Hd.d50.scope = true := by kernel_rfl
theorem cs_law_fields : cSs cc_law_fields 60 Hd.d50.scope Hd.d50.body = some ir_law_fields := by kernel_rfl
theorem at_law_fields (T : TopF Hd.hd P w K mg base) : FnAt P w K mg base "_law_fields" 4 spFields := fnAt_of T (dd := Hd.d50) (ps := [("k" : Str), ("one" : Str), ("other" : Str)]) (C := cc_law_fields) (m := 60) (k := 3) mm_law_fields rfl rfl rfl glo_law_fields sc_law_fields cs_law_fields (by decide) (FnsAt.cons ((at_law_raise T).mono (by decide)) FnsAt.nil) (by kernel_rfl) hbiK (by kernel_rfl) ps_law_fields (fun ds S Q E h => by first | (obtain ⟨rfl, _⟩ := h; rfl) | (obtain ⟨_, rfl, _⟩ := h; rfl) | (obtain ⟨_, _, rfl, _⟩ := h; rfl) | (obtain ⟨_, _, _, rfl, _⟩ := h; rfl) | (obtain ⟨_, _, _, _, rfl, _⟩ := h; rfl)) kp_law_fields
theorem ps_law_kinds : okPs Hd.d48 [("e" : Str)] := fun _ _ _ _ _ _ us hl => match us, hl with | [_], _ => by kernel_rfl
theorem mm_law_kinds : Hd.d48 ∈ Hd.hd.fn := by unfold Hd.hd Hd.fn; simp only [List.mem_append, List.mem_cons, true_or, or_true]
theorem glo_law_kinds : faGlo Hd.hd.fa "_law_kinds" = true := by kernel_rfl
theorem ps_law_caught : okPs Hd.d49 [("k" : Str), ("one" : Str), ("other" : Str)] := fun _ _ _ _ _ _ us hl => match us, hl with | [_, _, _], _ => by kernel_rfl
theorem mm_law_caught : Hd.d49 ∈ Hd.hd.fn := by unfold Hd.hd Hd.fn; simp only [List.mem_append, List.mem_cons, true_or, or_true]
theorem glo_law_caught : faGlo Hd.hd.fa "_law_caught" = true := by kernel_rfl
theorem sc_law_kinds : C8.scC ["e", "plain"] ["e"] Hd.d48.scope = true := by kernel_rfl
theorem sc_law_caught : C8.scC cc_law_caught.N [("k" : Str), ("one" : Str), ("other" : Str)] Hd.d49.scope = true := by kernel_rfl
def caughtV : List Stmt × Str × Str × Expr × List Stmt := (caughtP Hd.d49.body).getD ([], "", "", .Name "" ⟨0, 0, 0, 0⟩, [])
theorem caught_p : caughtP Hd.d49.body = some (caughtV.1, ("TreeError" : Str), ("e" : Str), caughtV.2.2.2.1, caughtV.2.2.2.2) := by kernel_rfl
theorem cs_tb : cSs cc_law_caught 60 Hd.d49.scope caughtV.1 = some (.cons (.ex (.fn 0 (.cons (.var 0) (.cons (.var 1) (.cons (.var 2) .nil))))) .nil) := by kernel_rfl
theorem cs_rest : cSs cc_law_caught 60 Hd.d49.scope caughtV.2.2.2.2 = some (.cons (.ret (.lst .nil)) .nil) := by kernel_rfl
theorem at_law_caught (T : TopF Hd.hd P w K mg base) (KC : KindC K) : FnAt P w K mg base "_law_caught" 4 spCaught := fnAt_caught T KC (dk := Hd.d48) (dc := Hd.d49) (xk := "_law_kinds") (xr := "_law_raise") (n := "e") (ps := [("k" : Str), ("one" : Str), ("other" : Str)]) (i := 3) (m := 60) (C := cc_law_caught) (k := 3) mm_law_kinds rfl rfl rfl glo_law_kinds sc_law_kinds (by kernel_rfl) ps_law_kinds (by kernel_rfl) (by kernel_rfl) (by kernel_rfl) (by kernel_rfl) mm_law_caught rfl rfl rfl glo_law_caught sc_law_caught ps_law_caught caught_p cs_tb cs_rest (by kernel_rfl) (by kernel_rfl) (by kernel_rfl) (by decide) (at_law_raise T) hbiK (by kernel_rfl) (by kernel_rfl) (by kernel_rfl) (by kernel_rfl) (by decide) (by kernel_rfl) (by kernel_rfl) (by kernel_rfl) (by kernel_rfl) (by decide) (by kernel_rfl) (fun ds S Q E h => by first | (obtain ⟨rfl, _⟩ := h; rfl) | (obtain ⟨_, rfl, _⟩ := h; rfl) | (obtain ⟨_, _, rfl, _⟩ := h; rfl) | (obtain ⟨_, _, _, rfl, _⟩ := h; rfl) | (obtain ⟨_, _, _, _, rfl, _⟩ := h; rfl)) kp_law_caught
theorem ps_law : okPs Hd.d51 [("script" : Str)] := fun _ _ _ _ _ _ us hl => match us, hl with | [_], _ => by kernel_rfl
theorem mm_law : Hd.d51 ∈ Hd.hd.fn := by unfold Hd.hd Hd.fn; simp only [List.mem_append, List.mem_cons, true_or, or_true]
theorem glo_law : faGlo Hd.hd.fa "law" = true := by kernel_rfl
theorem sc_law : C8.scC cc_law.N [("script" : Str)] Hd.d51.scope = true := by kernel_rfl
theorem cs_law : cSs cc_law 60 Hd.d51.scope Hd.d51.body = some ir_law := by kernel_rfl
theorem callees_law (T : TopF Hd.hd P w K mg base) (KC : KindC K) : FnsAt P w K mg base 5 cc_law.fns Γ0 := (FnsAt.cons ((at_law_draws T).mono (by decide)) (FnsAt.cons ((at_law_limits_right T).mono (by decide)) (FnsAt.cons ((at_law_one T).mono (by decide)) (FnsAt.cons ((at_law_caught T KC).mono (by decide)) (FnsAt.cons ((at_law_fields T).mono (by decide)) FnsAt.nil)))))
end
end TA
set_option Elab.async false
set_option linter.all false
set_option maxRecDepth 100000
set_option maxHeartbeats 0
namespace Hd
open PySem PySem.Spec PyProof.Rows L2
theorem run (w : World) : HandSHeadRun.RunEq R (PySem.W.view R.prog [51]) hk ob 30000 names w := by
  intro os
  kernel_rfl
end Hd
set_option Elab.async false
set_option linter.all false
set_option maxRecDepth 100000
set_option maxHeartbeats 4000000
/-! TZ1: the module's facts, for the head. -/
namespace TA
open PySem PySem.Spec L2 PyProof.Rows
abbrev PK : Program := (PySem.Challenge.rw_treeasked_k00_errors_and_limits).prog
theorem top_free {K : PySem.W.Frag} {h : Heap} {mg : Str → Option Value} {d : HeadD} {x : Str} (KX : K.In h) (G : h.Ns mainGlobals mg) (c : SaysX d K) (hf1 : faFree d.fa x = true) : mg x = none := by
  obtain ⟨f, hf, h2⟩ := List.any_eq_true.mp hf1
  split at h2
  · have e := of_decide_eq_true h2; subst e
    exact He.free_ok KX G (fact_of c.says hf)
  · cases h2
section
variable {w : World} {K : PySem.W.Frag} {mg : Str → Option Value} {h : Heap}
theorem errK (c : SaysX Hd.hd K) : ∀ x ∈ Hd.hd.errs, ∀ base : Heap, K.In base → base.Ns mainGlobals mg → ErrG PK w K mg base x := by
  intro x hx base KB GB
  have hm : mg "super" = none := top_free KB GB c (x := "super") (by kernel_rfl)
  have hx' : x = "ArgumentError" ∨ x = "PaperError" ∨ x = "TooMany" ∨ x = "CheckError" ∨ x = "TextError" ∨ x = "LogError" ∨ x = "CommandError" := by
    simpa [Hd.hd] using hx
  rcases hx' with rfl | rfl | rfl | rfl | rfl | rfl | rfl
  · exact errG_of (i := Hd.i2) (self := "self") (ar := (Hd.i2.params.args).headD ⟨"", none, ⟨0, 0, 0, 0⟩⟩) KB GB c hx (by simp [Hd.hd]) (by kernel_rfl) (by kernel_rfl) (by kernel_rfl) (by kernel_rfl) (by kernel_rfl) (by kernel_rfl) hm (fun _ _ _ _ _ _ _ us hl => match us, hl with | [_, _], _ => by kernel_rfl) (by kernel_rfl) (by kernel_rfl)
  · exact errG_of (i := Hd.i2) (self := "self") (ar := (Hd.i2.params.args).headD ⟨"", none, ⟨0, 0, 0, 0⟩⟩) KB GB c hx (by simp [Hd.hd]) (by kernel_rfl) (by kernel_rfl) (by kernel_rfl) (by kernel_rfl) (by kernel_rfl) (by kernel_rfl) hm (fun _ _ _ _ _ _ _ us hl => match us, hl with | [_, _], _ => by kernel_rfl) (by kernel_rfl) (by kernel_rfl)
  · exact errG_of (i := Hd.i2) (self := "self") (ar := (Hd.i2.params.args).headD ⟨"", none, ⟨0, 0, 0, 0⟩⟩) KB GB c hx (by simp [Hd.hd]) (by kernel_rfl) (by kernel_rfl) (by kernel_rfl) (by kernel_rfl) (by kernel_rfl) (by kernel_rfl) hm (fun _ _ _ _ _ _ _ us hl => match us, hl with | [_, _], _ => by kernel_rfl) (by kernel_rfl) (by kernel_rfl)
  · exact errG_of (i := Hd.i2) (self := "self") (ar := (Hd.i2.params.args).headD ⟨"", none, ⟨0, 0, 0, 0⟩⟩) KB GB c hx (by simp [Hd.hd]) (by kernel_rfl) (by kernel_rfl) (by kernel_rfl) (by kernel_rfl) (by kernel_rfl) (by kernel_rfl) hm (fun _ _ _ _ _ _ _ us hl => match us, hl with | [_, _], _ => by kernel_rfl) (by kernel_rfl) (by kernel_rfl)
  · exact errG_of (i := Hd.i7) (self := "self") (ar := (Hd.i7.params.args).headD ⟨"", none, ⟨0, 0, 0, 0⟩⟩) KB GB c hx (by simp [Hd.hd]) (by kernel_rfl) (by kernel_rfl) (by kernel_rfl) (by kernel_rfl) (by kernel_rfl) (by kernel_rfl) hm (fun _ _ _ _ _ _ _ us hl => match us, hl with | [_, _], _ => by kernel_rfl) (by kernel_rfl) (by kernel_rfl)
  · exact errG_of (i := Hd.i8) (self := "self") (ar := (Hd.i8.params.args).headD ⟨"", none, ⟨0, 0, 0, 0⟩⟩) KB GB c hx (by simp [Hd.hd]) (by kernel_rfl) (by kernel_rfl) (by kernel_rfl) (by kernel_rfl) (by kernel_rfl) (by kernel_rfl) hm (fun _ _ _ _ _ _ _ us hl => match us, hl with | [_, _, _], _ => by kernel_rfl) (by kernel_rfl) (by kernel_rfl)
  · exact errG_of (i := Hd.i9) (self := "self") (ar := (Hd.i9.params.args).headD ⟨"", none, ⟨0, 0, 0, 0⟩⟩) KB GB c hx (by simp [Hd.hd]) (by kernel_rfl) (by kernel_rfl) (by kernel_rfl) (by kernel_rfl) (by kernel_rfl) (by kernel_rfl) hm (fun _ _ _ _ _ _ _ us hl => match us, hl with | [_, _], _ => by kernel_rfl) (by kernel_rfl) (by kernel_rfl)
theorem topK (c : SaysX Hd.hd K) (base : Heap) (KB : K.In base) (GB : base.Ns mainGlobals mg) : TopF Hd.hd PK w K mg base := ⟨c, KB, GB, fun x hx => errK c x hx base KB GB⟩
theorem law_facts {fa : Addr} (KX : K.In h) (G : h.Ns mainGlobals mg) (hfa : mg ("law" : Str) = some (.ref fa)) (c : SaysY Hd.hd K) :
    ∃ fd : FuncData, (∀ (s : Shared) (u : Value), BindsTo s fd ⟨[u], []⟩ [(("script" : Str), u)]) ∧ ∀ base : Heap, K.In base → base.Ns mainGlobals mg → FnOkG PK w K mg base (L2.CX PK w) 6 fa fd ["script"] (liftSp w K spLaw) := by
  have T := topK (w := w) c.x h KX G
  obtain ⟨fd, F⟩ := fun_of T mm_law rfl rfl rfl
  have e : clA K "law" = fa := by
    have := hfa.symm.trans (T.glo glo_law)
    cases this; rfl
  have F' : FunD K "law" "law" Hd.d51.params Hd.d51.body Hd.d51.scope [] [] fa fd := by
    rw [← e]; exact F
  refine ⟨fd, fun s u => FunD.bindsA (ps := ["script"]) F' (ps_law) s [u] rfl, fun base KB GB => ?_⟩
  have T := topK (w := w) c.x base KB GB
  exact fn_text dctEvery F' sc_law cs_law (by decide) (glob_of T (callees_law T c.kind) (by kernel_rfl) hbiK) (fun x hx => T.errs x (of_decide_eq_true (List.all_eq_true.mp (show cc_law.errs.all (fun x => decide (x ∈ Hd.hd.errs)) = true by kernel_rfl) x hx))) (fun ds S Q E h => by obtain ⟨_, _, rfl, _⟩ := h; rfl) kp_law
end
end TA
set_option Elab.async false
set_option linter.all false
set_option maxRecDepth 100000
set_option maxHeartbeats 0
open PySem PySem.W PySem.Calls PyProof.Rows
theorem PySem.Challenge.cw_treeasked_k00_errors_and_limits_holds : PySem.Challenge.rw_treeasked_k00_errors_and_limits.Holds := by
  w_on; o_law
  refine HandSHeadRun.head_any (r := OpenLaw.row PySem.Challenge.rw_treeasked_k00_errors_and_limits) (q := view (OpenLaw.row PySem.Challenge.rw_treeasked_k00_errors_and_limits).prog [51]) (H := Hd.hk) (ob := Hd.ob) (M := 30000) (loose := Hd.names) (d := HandSHeadRun.topDef (OpenLaw.row PySem.Challenge.rw_treeasked_k00_errors_and_limits).prog 51) (kwd := []) Hd.ob_eq
    (by kernel_rfl) (fun s => by kernel_rfl) Hd.run (by kernel_rfl) (by kernel_rfl) (by kernel_rfl) (by rfl) (by first | assumption | decide +kernel) (by decide +kernel) ⟨rfl, rfl, rfl, rfl, rfl, by decide +kernel⟩ ?hw ?hc
  case hw => w_witness2
  case hc =>
    refine TA.walk_ofG (l := PySem.Challenge.rw_treeasked_k00_errors_and_limits) (n := 63) (k := 6) (x := "script") rfl (by decide) (by kernel_rfl) ⟨rfl, by decide, by decide⟩ ?F ?X
    case X =>
      intro _ _ _ _ _ z
      obtain ⟨_, _, _, _, _, _, _, _, _, _, _, _, q⟩ := z
      exact q
    intro w mg fa h Y G hmg0
    obtain ⟨K, KX, c⟩ := Y
    have hmg : mg ("law" : PySem.Str) = some (.ref fa) := by
      have e : (HandSHeadRun.topDef (OpenLaw.row PySem.Challenge.rw_treeasked_k00_errors_and_limits).prog 51).name = ("law" : PySem.Str) := by kernel_rfl
      rw [← e]
      exact hmg0
    obtain ⟨fd, hb, hF⟩ := TA.law_facts (w := w) KX G hmg c
    exact ⟨K, fd, TA.spLaw, KX, c.x.all.1, hb, fun a ns hl => ⟨a, ns, rfl, TA.put_same, rfl⟩, hF⟩
