import PyProof.Rows.All
import HandS.ForMost
import KE.SortData
import KE.DataEq
import KE.DataMinMax
import HandS.SetKeys
import HandS.Wide
import HandS.Deep
import HandS.TupAny
import HandS.Strs
import HandS.Dict
import KE.KxIndex
import HandS.Defaults
import HandS.Flow
import HandS.Exc
import HandS.WordsExc
import HandS.Iter
import HandS.Zip
import PyProof.Rows.ChunkLeaf
import HandS.Comp
import HandS.Small
import KE.KDictPairs
import PyProof.ReprRoads
import HandS.More
import KE.GoesMore
import KE.GoesEnum
import HandS.Conv
import HandS.DictComp
import HandS.IsInst
import HandS.HeadEnd
import HandS.EndBits
import HandS.HeadHook2
import Wide.All
import OpenK.AllK
import Wide.FinOn
import HandS.Head0
import HandS.Head1
import HandS.Head2
import PySem.Challenge.RW_crossfloor_k10_gap_words
set_option Elab.async false
set_option linter.all false
/-! Iv1: data, the store, the small language, its interpreter. -/
namespace Iv
open PySem

/-- data: numbers, texts, tuples by value; all that changes by its place in the store -/
inductive D where
  | non | bl (b : Bool) | int (i : Int) | str (x : Str) | tup (xs : List D) | rol (xs : List D) | loc (n : Nat)
  deriving Inhabited

mutual
def D.same : D → D → Bool
  | .non, .non => true
  | .bl a, .bl b => decide (a = b)
  | .int a, .int b => decide (a = b)
  | .str a, .str b => decide (a = b)
  | .loc a, .loc b => decide (a = b)
  | .tup a, .tup b => D.sames a b
  | .rol a, .rol b => D.sames a b
  | .non, .bl _ | .non, .int _ | .non, .str _ | .non, .tup _ | .non, .rol _ | .non, .loc _ => false
  | .bl _, .non | .bl _, .int _ | .bl _, .str _ | .bl _, .tup _ | .bl _, .rol _ | .bl _, .loc _ => false
  | .int _, .non | .int _, .bl _ | .int _, .str _ | .int _, .tup _ | .int _, .rol _ | .int _, .loc _ => false
  | .str _, .non | .str _, .bl _ | .str _, .int _ | .str _, .tup _ | .str _, .rol _ | .str _, .loc _ => false
  | .tup _, .non | .tup _, .bl _ | .tup _, .int _ | .tup _, .str _ | .tup _, .rol _ | .tup _, .loc _ => false
  | .rol _, .non | .rol _, .bl _ | .rol _, .int _ | .rol _, .str _ | .rol _, .tup _ | .rol _, .loc _ => false
  | .loc _, .non | .loc _, .bl _ | .loc _, .int _ | .loc _, .str _ | .loc _, .tup _ | .loc _, .rol _ => false
def D.sames : List D → List D → Bool
  | [], [] => true
  | a :: as, b :: bs => D.same a b && D.sames as bs
  | [], _ :: _ => false
  | _ :: _, [] => false
end
mutual
theorem D.same_eq : ∀ {a b : D}, D.same a b = true → a = b
  | .non, .non, _ => rfl
  | .bl _, .bl _, h => by rw [of_decide_eq_true h]
  | .int _, .int _, h => by rw [of_decide_eq_true h]
  | .str _, .str _, h => by rw [of_decide_eq_true h]
  | .loc _, .loc _, h => by rw [of_decide_eq_true h]
  | .tup a, .tup b, h => by rw [D.sames_eq (a := a) (b := b) h]
  | .rol a, .rol b, h => by rw [D.sames_eq (a := a) (b := b) h]
  | .non, .bl _, h | .non, .int _, h | .non, .str _, h | .non, .tup _, h | .non, .rol _, h | .non, .loc _, h => by cases h
  | .bl _, .non, h | .bl _, .int _, h | .bl _, .str _, h | .bl _, .tup _, h | .bl _, .rol _, h | .bl _, .loc _, h => by cases h
  | .int _, .non, h | .int _, .bl _, h | .int _, .str _, h | .int _, .tup _, h | .int _, .rol _, h | .int _, .loc _, h => by cases h
  | .str _, .non, h | .str _, .bl _, h | .str _, .int _, h | .str _, .tup _, h | .str _, .rol _, h | .str _, .loc _, h => by cases h
  | .tup _, .non, h | .tup _, .bl _, h | .tup _, .int _, h | .tup _, .str _, h | .tup _, .rol _, h | .tup _, .loc _, h => by cases h
  | .rol _, .non, h | .rol _, .bl _, h | .rol _, .int _, h | .rol _, .str _, h | .rol _, .tup _, h | .rol _, .loc _, h => by cases h
  | .loc _, .non, h | .loc _, .bl _, h | .loc _, .int _, h | .loc _, .str _, h | .loc _, .tup _, h | .loc _, .rol _, h => by cases h
theorem D.sames_eq : ∀ {a b : List D}, D.sames a b = true → a = b
  | [], [], _ => rfl
  | a :: as, b :: bs, h => by
    have q := Bool.and_eq_true_iff.mp h
    rw [D.same_eq q.1, D.sames_eq q.2]
  | [], _ :: _, h => by cases h
  | _ :: _, [], h => by cases h
end
mutual
theorem D.same_refl : ∀ (a : D), D.same a a = true
  | .non => rfl
  | .bl _ | .int _ | .str _ | .loc _ => decide_eq_true rfl
  | .tup a | .rol a => D.sames_refl a
theorem D.sames_refl : ∀ (a : List D), D.sames a a = true
  | [] => rfl
  | a :: as => Bool.and_eq_true_iff.mpr ⟨D.same_refl a, D.sames_refl as⟩
end
instance : DecidableEq D := fun a b => if h : D.same a b = true then .isTrue (D.same_eq h) else .isFalse fun e => h (e ▸ D.same_refl a)

mutual
/-- all places below n -/
def D.cl (n : Nat) : D → Bool
  | .tup xs | .rol xs => D.cls n xs
  | .loc m => decide (m < n)
  | .non | .bl _ | .int _ | .str _ => true
def D.cls (n : Nat) : List D → Bool
  | [] => true
  | a :: as => D.cl n a && D.cls n as
end

abbrev Key := Sum Int Str
def hasK (k : Key) (ks : List Key) : Bool := ks.any fun j => decide (j = k)
def D.key? : D → Option Key
  | .int i => some (.inl i)
  | .str x => some (.inr x)
  | _ => none
def ofKey : Key → D
  | .inl i => .int i
  | .inr x => .str x
def keys? : List D → Option (List Key)
  | [] => some []
  | a :: as => match D.key? a, keys? as with
    | some k, some ks => some (k :: ks)
    | _, _ => none

inductive Cell where
  | lst (xs : List D)
  /-- a dict (locked while a loop walks it); one whose keys are tuples -/
  | dct (lk : Bool) (kvs : List (Key × D))
  | dtp (kvs : List (List Key × D))
  | set (ks : List Key)
  | ins (c : Nat) (fs : List (Str × D))
  deriving DecidableEq, Inhabited
def Cell.cl (n : Nat) : Cell → Bool
  | .lst xs => D.cls n xs
  | .dct _ kvs => D.cls n (kvs.map (·.2))
  | .dtp kvs => D.cls n (kvs.map (·.2))
  | .set _ => true
  | .ins _ fs => D.cls n (fs.map (·.2))
abbrev Store := List Cell

inductive Out (α : Type) where
  | ok (a : α) (S : Store)
  | ex (c : Nat) (fs : List (Str × D)) (S : Store)
  | bad
def Out.bind {α β : Type} : Out α → (α → Store → Out β) → Out β
  | .ok a S, f => f a S
  | .ex c fs S, _ => .ex c fs S
  | .bad, _ => .bad
abbrev Env := List (Option D)
abbrev Fns := Nat → List D → Store → Out D

/-! ### reading the store -/
def lstAt (S : Store) (n : Nat) : Option (List D) := match S[n]? with
  | some (.lst xs) => some xs
  | _ => none
def seqOf (S : Store) : D → Option (List D)
  | .tup xs | .rol xs => some xs
  | .loc n => lstAt S n
  | _ => none
def listOf (S : Store) : D → Option (List D)
  | .rol xs => some xs
  | .loc n => lstAt S n
  | _ => none
def lookA {κ β : Type} [DecidableEq κ] (k : κ) : List (κ × β) → Option β
  | [] => none
  | (a, b) :: r => if a = k then some b else lookA k r
def putA {κ β : Type} [DecidableEq κ] (k : κ) (v : β) : List (κ × β) → List (κ × β)
  | [] => [(k, v)]
  | (a, b) :: r => if a = k then (a, v) :: r else (a, b) :: putA k v r

/-! ### the language -/
inductive Bf where
  | len | max2 | min2 | max1 | min1 | sum | abs | sorted | tuple | list | dict | set | all | any | repr | str | int
  deriving DecidableEq
inductive Bm where
  | append | pop | popAt | insert | index | count | add | upper | lower | join | split | partition | get2 | values | items
  deriving DecidableEq
mutual
inductive IE where
  | var (i : Nat)
  | con (c : D)
  | glo (x : Str) (c : D)
  | bin (op : Operator) (a b : IE)
  | neg (a : IE)
  | cmp (op : CmpOp) (a b : IE)
  | chn (op op' : CmpOp) (a b c : IE)
  | and (a b : IE) | or (a b : IE) | not (a : IE)
  /-- the last of an and, an or -/
  | one (a : IE)
  | ite (c a b : IE)
  | tup (es : IEs) | lst (es : IEs)
  | dsp (ks vs : IEs)
  /-- a dict's display: key, value, key, value, .. -/
  | dis (es : IEs)
  /-- isinstance(e, tuple), isinstance(e, int) -/
  | isi (k : Bool) (e : IE)
  | call (f : Nat) (es : IEs)
  | bf (b : Bf) (es : IEs)
  | bm (m : Bm) (o : IE) (es : IEs)
  | set0
  | lrange (es : IEs)
  | ix (o i : IE)
  | slc (o : IE) (lo hi : IO)
  | rev (o : IE)
  | lc (e : IE) (t : IT) (it : II) (c : IO)
  | lc2 (e : IE) (t : IT) (it : II) (t2 : IT) (it2 : II) (c : IO)
  | dc (k v : IE) (t : IT) (it : II)
  | sc (e : IE) (t : IT) (it : II)
inductive IO where
  | none | some (e : IE)
inductive IEs where
  | nil | cons (e : IE) (es : IEs)
/-- what a for walks -/
inductive II where
  | val (e : IE) | range (es : IEs) | enum (e : IE) | zip (a b : IE)
/-- a target -/
inductive IT where
  | nm (i : Nat) | sub (o i : IE) | tup (ts : ITs)
inductive ITs where
  | nil | cons (t : IT) (ts : ITs)
end
mutual
inductive IS where
  | expr (e : IE)
  | asg (t : IT) (e : IE)
  | par2 (i j : Nat) (e e' : IE)
  | aug (op : Operator) (i : Nat) (e : IE)
  | ret (e : IO)
  | ife (c : IE) (a b : ISs)
  | whl (c : IE) (b : ISs)
  | for_ (t : IT) (it : II) (b : ISs)
  /-- for t in a dict's keys -/
  | forK (t : IT) (i : Nat) (b : ISs)
  | brk | cnt | pas
  /-- a statement that no run comes to -/
  | nev
inductive ISs where
  | nil | cons (s : IS) (ss : ISs)
end

/-! ### operators -/
def mulOk (i j : Int) : Bool := decide (i.natAbs.log2 + j.natAbs.log2 < 1000000)
def opI (op : Operator) (i j : Int) : Option Int := match op with
  | .Add => some (i + j)
  | .Sub => some (i - j)
  | .Mult => if mulOk i j then some (i * j) else none
  | .FloorDiv => if 0 < j ∧ j.natAbs.log2 < 9000 then some (i / j) else none
  | .Mod => if 0 < j then some (i % j) else none
  | .Pow => if 0 ≤ j ∧ (Builtin.Int.intBits i : Int) * j ≤ 2 ^ 27 then some (i ^ j.toNat) else none
  | _ => none
def ok? {α : Type} (o : Option α) (S : Store) : Out α := match o with
  | some a => .ok a S
  | none => .bad
def newC (c : Cell) (S : Store) : Out D := .ok (.loc S.length) (S ++ [c])
def opD (op : Operator) (a b : D) (S : Store) : Out D := match a, b with
  | .int i, .int j => ok? ((opI op i j).map .int) S
  | .str x, .str y => if op = .Add ∧ x.length + y.length ≤ sizeLine then .ok (.str (x ++ y)) S else .bad
  | .tup x, .tup y => if op = .Add ∧ x.length + y.length ≤ sizeLine then .ok (.tup (x ++ y)) S else .bad
  | .loc m, .loc n => match op, S[m]?, S[n]? with
    | .Add, some (.lst xs), some (.lst ys) => if xs.length + ys.length ≤ sizeLine then newC (.lst (xs ++ ys)) S else .bad
    | _, _, _ => .bad
  | .loc m, .int k => match op, S[m]? with
    | .Mult, some (.lst xs) => if 0 ≤ k ∧ k < 2 ^ 62 ∧ xs.length * k.toNat ≤ sizeLine then newC (.lst (List.replicate k.toNat xs).flatten) S else .bad
    | _, _ => .bad
  | .str x, .int k => if op = .Mult ∧ x.length ≤ 16 ∧ 0 ≤ k ∧ k ≤ 1048576 then .ok (.str (Txt.mul x k)) S else .bad
  | _, _ => .bad

/-- the results of f along a list, if each has one -/
def mapO {α β : Type} (f : α → Option β) : List α → Option (List β)
  | [] => some []
  | a :: as => match f a, mapO f as with
    | some b, some bs => some (b :: bs)
    | _, _ => none
/-- data as the library's trees, at most n deep -/
def toPy (S : Store) : Nat → D → Option PyData
  | _, .non => some .none
  | _, .bl b => some (.bool b)
  | _, .int i => some (.int i)
  | _, .str x => some (.str x)
  | 0, .tup _ | 0, .rol _ | 0, .loc _ => none
  | n + 1, .tup xs => (mapO (toPy S n) xs).map .tuple
  | n + 1, .rol xs => (mapO (toPy S n) xs).map .list
  | n + 1, .loc m => (lstAt S m).bind fun xs => (mapO (toPy S n) xs).map .list
def eqD (a b : D) (S : Store) : Option Bool := match toPy S 8 a, toPy S 8 b with
  | some x, some y => some (PyData.eqv x y)
  | _, _ => none
def strs? : List D → Option (List Str)
  | [] => some []
  | .str x :: r => (strs? r).map (x :: ·)
  | _ :: _ => none
def ints? : List D → Option (List Int)
  | [] => some []
  | .int x :: r => (ints? r).map (x :: ·)
  | _ :: _ => none
def bls? : List D → Option (List Bool)
  | [] => some []
  | .bl x :: r => (bls? r).map (x :: ·)
  | _ :: _ => none
def inStr (x y : Str) : Bool := !(Builtin.Str.occurrences y x 0 y.length 1).isEmpty
def inL (a : D) (xs : List D) (S : Store) : Option Bool := match toPy S 8 a, mapO (toPy S 8) xs with
  | some d, some ds => some (ds.any fun z => PyData.eqv z d)
  | _, _ => none
def inD (a b : D) (S : Store) : Option Bool := match b with
  | .str y => match a with
    | .str x => some (inStr x y)
    | _ => none
  | .tup ys => inL a ys S
  | .rol ys => inL a ys S
  | .loc n => match S[n]? with
    | some (.lst xs) => inL a xs S
    | some (.dct _ kvs) => (D.key? a).map fun k => (lookA k kvs).isSome
    | some (.dtp kvs) => match a with
      | .tup ks => (keys? ks).map fun k => (lookA k kvs).isSome
      | _ => none
    | some (.set ks) => (D.key? a).map fun k => hasK k ks
    | _ => none
  | _ => none
def ltStr (x y : Str) : Bool := decide (x.cps.toList < y.cps.toList)
def cmpD (op : CmpOp) (a b : D) (S : Store) : Option Bool := match op with
  | .Eq => eqD a b S
  | .NotEq => (eqD a b S).map not
  | .Lt => match a, b with
    | .int i, .int j => some (decide (i < j))
    | .str x, .str y => some (ltStr x y)
    | _, _ => none
  | .LtE => match a, b with
    | .int i, .int j => some (decide (i ≤ j))
    | _, _ => none
  | .Gt => match a, b with
    | .int i, .int j => some (decide (j < i))
    | _, _ => none
  | .GtE => match a, b with
    | .int i, .int j => some (decide (j ≤ i))
    | _, _ => none
  | .In => inD a b S
  | .NotIn => (inD a b S).map not
  | .Is => match b with
    | .non => some (decide (a = .non))
    | _ => none
  | .IsNot => match b with
    | .non => some (!decide (a = .non))
    | _ => none
def tru (S : Store) : D → Option Bool
  | .non => some false
  | .bl b => some b
  | .int i => some (i != 0)
  | .str x => if x.length ≤ sizeLine then some (x.length != 0) else none
  | .tup xs | .rol xs => some (!xs.isEmpty)
  | .loc n => match S[n]? with
    | some (.lst xs) => some (!xs.isEmpty)
    | _ => none

/-! ### subscripts, built-in functions, methods -/
def ixAt {α : Type} (xs : List α) (i : Int) : Option α := L2.atI xs i
def ixD (a b : D) (S : Store) : Option D := match a, b with
  | .tup xs, .int i => ixAt xs i
  | .rol xs, .int i => ixAt xs i
  | .str x, .int i => if x.length ≤ sizeLine then (ixAt x.cps.toList i).map fun c => .str ⟨#[c]⟩ else none
  | .loc n, k => match S[n]?, k with
    | some (.lst xs), .int i => ixAt xs i
    | some (.dct _ kvs), k => (D.key? k).bind fun q => lookA q kvs
    | some (.dtp kvs), .tup ks => (keys? ks).bind fun q => lookA q kvs
    | _, _ => none
  | _, _ => none
def cutL {α : Type} (xs : List α) (lo hi : Option Int) : List α := (xs.drop (HT.sIx xs.length 0 lo)).take (HT.sIx xs.length xs.length hi - HT.sIx xs.length 0 lo)
def slD (a : D) (lo hi : Option Int) (S : Store) : Out D := match a with
  | .tup xs => .ok (.tup (cutL xs lo hi)) S
  | .str x => if x.length ≤ sizeLine then .ok (.str ⟨(cutL x.cps.toList lo hi).toArray⟩) S else .bad
  | .loc n => match lstAt S n with
    | some xs => newC (.lst (cutL xs lo hi)) S
    | none => .bad
  | .rol xs => newC (.lst (cutL xs lo hi)) S
  | _ => .bad

/-! ### sorting -/
def alikes (ds : List PyData) : Bool := ds.all fun d => ds.all fun e => PySem.W.alike d e
def sortable (ds : List PyData) : Bool := (ds.all fun d => match d with | .tuple (_ :: _) => true | _ => false) || ds.all fun d => match d with | .none | .tuple _ => false | _ => true
def sortBy (xs : List D) (ds : List PyData) : List D := ((xs.zip ds).mergeSort (PySem.W.dataLe false (·.2))).map (·.1)
def leStr (x y : Str) : Bool := decide (x.cps.toList ≤ y.cps.toList)
def sortS (xs : List Str) : List Str := xs.mergeSort leStr
def strKeys : List Key → Option (List Str)
  | [] => some []
  | .inr x :: r => (strKeys r).map (x :: ·)
  | .inl _ :: _ => none
def sortD (S : Store) (xs : List D) : Option (List D) := match mapO (toPy S 8) xs with
  | some ds => if alikes ds && sortable ds && decide (xs.length ≤ sizeLine) then some (sortBy xs ds) else none
  | none => none

/-! ### what is shown -/
def lenD (S : Store) : D → Option Nat
  | .str x => if x.length ≤ sizeLine then some x.length else none
  | .tup xs | .rol xs => some xs.length
  | .loc n => match S[n]? with
    | some (.lst xs) => some xs.length
    | some (.dct _ kvs) => some kvs.length
    | some (.set ks) => some ks.length
    | _ => none
  | _ => none
def reprOk (d : PyData) : Bool := d.showable && !d.hasDict && decide (d.shown.length ≤ sizeLine)
def reprD (S : Store) (a : D) : Option Str := match toPy S 8 a with
  | some d => if reprOk d then some d.shown else none
  | none => none
def minS : List Str → Option Str
  | [] => none
  | a :: r => some (r.foldl (fun x y => if ltStr y x then y else x) a)
def minI : List Int → Option Int
  | [] => none
  | a :: r => some (r.foldl min a)
def maxI : List Int → Option Int
  | [] => none
  | a :: r => some (r.foldl max a)
def pairsOf : List D → Option (List (Key × D))
  | [] => some []
  | .tup [k, v] :: r => match D.key? k, pairsOf r with
    | some q, some ps => some ((q, v) :: ps)
    | _, _ => none
  | _ :: _ => none
def fromPairs : List (Key × D) → List (Key × D) → List (Key × D)
  | acc, [] => acc
  | acc, (k, v) :: r => fromPairs (putA k v acc) r
def addK (k : Key) (ks : List Key) : List Key := if hasK k ks then ks else ks ++ [k]
def setFrom : List Key → List Key → List Key
  | acc, [] => acc
  | acc, k :: r => setFrom (addK k acc) r
def sortK (d : D) (S : Store) : Out D := match d with
  | .loc n => match S[n]? with
    | some (.dct _ kvs) => match strKeys (kvs.map (·.1)) with
      | some ks => if ks.length < 64 then newC (.lst ((sortS ks).map .str)) S else .bad
      | none => .bad
    | _ => .bad
  | _ => .bad
def sortO (d : D) (S : Store) : Out D := match listOf S d with
  | some xs => match sortD S xs with
    | some ys => newC (.lst ys) S
    | none => .bad
  | none => sortK d S
def bfD (b : Bf) (as : List D) (S : Store) : Out D := match b, as with
  | .len, [d] => ok? ((lenD S d).map fun n : Nat => .int n) S
  | .max2, [.int i, .int j] => .ok (.int (if j > i then j else i)) S
  | .min2, [.int i, .int j] => .ok (.int (if j < i then j else i)) S
  | .max1, [d] => ok? (((seqOf S d).bind ints?).bind fun l => (maxI l).map .int) S
  | .min1, [d] => match seqOf S d with
    | none => .bad
    | some xs => match ints? xs, strs? xs with
      | some l, none => ok? ((minI l).map .int) S
      | none, some l => ok? ((minS l).map .str) S
      | _, _ => .bad
  | .sum, [d] => ok? (((listOf S d).bind ints?).map fun l => .int l.sum) S
  | .abs, [.int i] => .ok (.int (if i < 0 then -i else i)) S
  | .sorted, [d] => sortO d S
  | .tuple, [d] => ok? ((seqOf S d).map .tup) S
  | .list, [d] => match seqOf S d with
    | some xs => newC (.lst xs) S
    | none => .bad
  | .dict, [d] => match (seqOf S d).bind pairsOf with
    | some ps => newC (.dct false (fromPairs [] ps)) S
    | none => .bad
  | .set, [d] => match (seqOf S d).bind keys? with
    | some ks => newC (.set (setFrom [] ks)) S
    | none => .bad
  | .all, [d] => ok? (((listOf S d).bind bls?).map fun l => .bl (l.all id)) S
  | .any, [d] => ok? (((listOf S d).bind bls?).map fun l => .bl (l.any id)) S
  | .repr, [d] => ok? ((reprD S d).map .str) S
  | .str, [.int i] => if i.natAbs.log2 < 1920 then .ok (.str (Str.ofString (toString i))) S else .bad
  | .int, [.bl k] => .ok (.int (if k then 1 else 0)) S
  | .int, [.int i] => .ok (.int i) S
  | _, _ => .bad
def joinS (sep : Str) (l : List Str) : Str := Str.join sep l
def splitS (sep x : Str) : List Str := [x]
def idxOf {α : Type} [DecidableEq α] (a : α) : List α → Option Nat
  | [] => none
  | b :: r => if b = a then some 0 else (idxOf a r).map (· + 1)
def lstDo (o : D) (S : Store) (f : Nat → List D → Out D) : Out D := match o with
  | .loc n => match S[n]? with
    | some (.lst xs) => f n xs
    | _ => .bad
  | _ => .bad
def bmD (m : Bm) (o : D) (as : List D) (S : Store) : Out D := match m, as with
  | .append, [d] => lstDo o S fun n xs => if xs.length < sizeLine then .ok .non (S.set n (.lst (xs ++ [d]))) else .bad
  | .pop, [] => lstDo o S fun n xs => match xs.getLast? with
    | some d => .ok d (S.set n (.lst xs.dropLast))
    | none => .bad
  | .popAt, [.int i] => lstDo o S fun n xs => match L2.ixN xs.length i with
    | some j => match xs[j]? with
      | some d => if i < 2 ^ 63 ∧ -(2 ^ 63) ≤ i then .ok d (S.set n (.lst (xs.eraseIdx j))) else .bad
      | none => .bad
    | none => .bad
  | .index, [.str x] => match seqOf S o with
    | some xs => match strs? xs with
      | some l => ok? ((idxOf x l).map fun j : Nat => .int j) S
      | none => .bad
    | none => .bad
  | .add, [d] => match o with
    | .loc n => match S[n]? with
      | some (.set ks) => match D.key? d with
        | some k => if ks.length + 1 < 1000 then .ok .non (S.set n (.set (addK k ks))) else .bad
        | none => .bad
      | _ => .bad
    | _ => .bad
  | .get2, [k, d] => match o with
    | .loc n => match S[n]? with
      | some (.dct _ kvs) => ok? ((D.key? k).map fun q => (lookA q kvs).getD d) S
      | _ => .bad
    | _ => .bad
  | .upper, [] => match o with
    | .str x => if x.length ≤ 5000000 then .ok (.str (Txt.upper x)) S else .bad
    | _ => .bad
  | .lower, [] => match o with
    | .str x => if x.length ≤ 5000000 then .ok (.str (Txt.lower x)) S else .bad
    | _ => .bad
  | _, _ => .bad

/-- what a method's receiver is -/
def bmK (m : Bm) (o : D) (S : Store) : Bool := match o with
  | .str _ => match m with
    | .upper | .lower => true
    | _ => false
  | .tup _ => match m with
    | .index => true
    | _ => false
  | .loc n => match S[n]?, m with
    | some (.lst _), .append | some (.lst _), .pop | some (.lst _), .popAt | some (.lst _), .index => true
    | some (.set _), .add => true
    | some (.dct _ _), .get2 => true
    | _, _ => false
  | _ => false

/-! ### the interpreter -/
/-- what a loop walks: its items, and the list that must stay as it is -/
inductive Src where
  | free | lst (n : Nat) (xs : List D) | dct (n : Nat) (kvs : List (Key × D)) | two (a b : Src)
def Src.ok : Src → Store → Bool
  | .free, _ => true
  | .lst n xs, S => decide (lstAt S n = some xs)
  | .dct n kvs, S => decide (S[n]? = some (.dct true kvs))
  | .two a b, S => a.ok S && b.ok S
def keepC (n : Nat) : Store → Store → Bool
  | [], _ => true
  | _ :: _, [] => false
  | c :: T, c0 :: S => (decide (c = c0) || c.cl n) && keepC n T S
/-- behind a call, a turn: what is no longer reached is dropped -/
def gc (S : Store) (d : D) (S' : Store) : Out D :=
  if keepC S.length (S'.take S.length) S then
    if d.cl S.length then .ok d (S'.take S.length)
    else match d with
      | .loc m => match S'[m]? with
        | some c => if c.cl S.length then .ok (.loc S.length) (S'.take S.length ++ [c]) else .ok d S'
        | none => .ok d S'
      | _ => .ok d S'
  else .ok d S'
def rangeL (lo : Int) : Nat → List D
  | 0 => []
  | n + 1 => .int lo :: rangeL (lo + 1) n
def small62 (i : Int) : Bool := decide (-(2 ^ 62) ≤ i ∧ i < 2 ^ 62)
def range3 (lo c : Int) : Nat → List D
  | 0 => []
  | n + 1 => .int lo :: range3 (lo + c) c n
def rangeOf : List D → Option (List D)
  | [.int j] => if small62 j then some (rangeL 0 j.toNat) else none
  | [.int i, .int j] => if small62 i && small62 j then some (rangeL i (j - i).toNat) else none
  | [.int i, .int j, .int c] => if c ≠ 0 ∧ c.natAbs < 1073741824 ∧ Builtin.Range.small i j c = true then some (range3 i c (Builtin.Range.rangeSize i j c).toNat) else none
  | _ => none
def enumL (i : Int) : List D → List D
  | [] => []
  | x :: r => .tup [.int i, x] :: enumL (i + 1) r
def zipL : List D → List D → List D
  | x :: xs, y :: ys => .tup [x, y] :: zipL xs ys
  | _, _ => []
/-- what a loop takes from a value -/
def walkOf (S : Store) : D → Option (List D)
  | .str x => some (x.cps.toList.map fun c => .str ⟨#[c]⟩)
  | d => seqOf S d
def srcOf : D → List D → Src
  | .loc n, xs => .lst n xs
  | _, _ => .free
/-! names and tuples of names -/
mutual
def bindT : IT → D → Env → Option Env
  | .nm i, d, ρ => if i < ρ.length then some (ρ.set i (some d)) else none
  | .sub _ _, _, _ => none
  | .tup ts, d, ρ => match d with
    | .tup ds => bindTs ts ds ρ
    | _ => none
def bindTs : ITs → List D → Env → Option Env
  | .nil, [], ρ => some ρ
  | .cons t ts, d :: ds, ρ => (bindT t d ρ).bind fun ρ' => bindTs ts ds ρ'
  | .nil, _ :: _, _ => none
  | .cons _ _, [], _ => none
end
mutual
def slotsT : IT → List Nat
  | .nm i => [i]
  | .sub _ _ => []
  | .tup ts => slotsTs ts
def slotsTs : ITs → List Nat
  | .nil => []
  | .cons t ts => slotsT t ++ slotsTs ts
end
def slotsTs.len : ITs → Nat
  | .nil => 0
  | .cons _ ts => slotsTs.len ts + 1
def wipeE (ρ : Env) : List Nat → Env
  | [] => ρ
  | v :: vs => (wipeE ρ vs).set v none
/-- a list comprehension's turns; the new list stands at n -/
def loopC (src : Src) (f : D → Store → Out (Option D)) (n : Nat) : List D → Store → Out Unit
  | [], S => if src.ok S then .ok () S else .bad
  | x :: xs, S => if src.ok S then
      match f x S with
      | .ok (some d) S' => (gc S d S').bind fun d' S'' => match S''[n]? with
        | some (.lst acc) => if acc.length < sizeLine then loopC src f n xs (S''.set n (.lst (acc ++ [d']))) else .bad
        | _ => .bad
      | .ok none S' => (gc S .non S').bind fun _ S'' => loopC src f n xs S''
      | _ => .bad
    else .bad
/-- the outer turns of two fors -/
def loopO (src : Src) (f : D → Store → Out Unit) : List D → Store → Out Unit
  | [], S => if src.ok S then .ok () S else .bad
  | x :: xs, S => if src.ok S then
      match f x S with
      | .ok _ S' => loopO src f xs S'
      | _ => .bad
    else .bad
inductive OutS where
  | nx (ρ : Env) (S : Store)
  | rt (d : D) (S : Store)
  | bk (ρ : Env) (S : Store)
  | ct (ρ : Env) (S : Store)
  | ex (c : Nat) (fs : List (Str × D)) (S : Store)
  | bad
def OutS.bind : OutS → (Env → Store → OutS) → OutS
  | .nx ρ S, f => f ρ S
  | o, _ => o
def Out.bindS {α : Type} : Out α → (α → Store → OutS) → OutS
  | .ok a S, f => f a S
  | .ex c fs S, _ => .ex c fs S
  | .bad, _ => .bad
def loopF (src : Src) (f : D → Env → Store → OutS) : List D → Env → Store → OutS
  | [], ρ, S => if src.ok S then .nx ρ S else .bad
  | x :: xs, ρ, S => if src.ok S then
      match f x ρ S with
      | .nx ρ' S' => loopF src f xs ρ' S'
      | .ct ρ' S' => loopF src f xs ρ' S'
      | .bk ρ' S' => .nx ρ' S'
      | o => o
    else .bad
def loopW (c : Env → Store → Out Bool) (f : Env → Store → OutS) : Nat → Env → Store → OutS
  | 0, _, _ => .bad
  | n + 1, ρ, S => (c ρ S).bindS fun b S1 => if b then
      match f ρ S1 with
      | .nx ρ' S' => loopW c f n ρ' S'
      | .ct ρ' S' => loopW c f n ρ' S'
      | .bk ρ' S' => .nx ρ' S'
      | o => o
    else .nx ρ S1
def fuelW : Nat := 1000000000
def truO (d : D) (S : Store) : Out Bool := ok? (tru S d) S
def blO (d : D) (S : Store) : Out Bool := match d with
  | .bl b => .ok b S
  | _ => .bad
def setD (o i d : D) (S : Store) : Out Unit := match o with
  | .loc n => match S[n]?, i with
    | some (.lst xs), .int k => match L2.ixN xs.length k with
      | some j => .ok () (S.set n (.lst (xs.set j d)))
      | none => .bad
    | some (.dct false kvs), k => match D.key? k with
      | some q => if kvs.length < sizeLine then .ok () (S.set n (.dct false (putA q d kvs))) else .bad
      | none => .bad
    | _, _ => .bad
  | _ => .bad
def pairUp : List D → Option (List (Key × D))
  | [] => some []
  | k :: v :: r => match D.key? k, pairUp r with
    | some q, some ps => some ((q, v) :: ps)
    | _, _ => none
  | [_] => none
/-- a dict comprehension's store -/
def putO (n : Nat) (y z : D) (S : Store) : Out Unit := match D.key? y, S[n]? with
  | some q, some (.dct false kvs) => if kvs.length < sizeLine ∧ (kvs.map (·.1)).Nodup then .ok () (S.set n (.dct false (putA q z kvs))) else .bad
  | _, _ => .bad
mutual
def evE (F : Fns) : IE → Env → Store → Out D
  | .var i, ρ, S => match ρ[i]? with
    | some (some d) => .ok d S
    | _ => .bad
  | .con c, _, S => .ok c S
  | .glo _ c, _, S => .ok c S
  | .bin op a b, ρ, S => (evE F a ρ S).bind fun x S1 => (evE F b ρ S1).bind fun y S2 => opD op x y S2
  | .neg a, ρ, S => (evE F a ρ S).bind fun x S1 => match x with
    | .int i => .ok (.int (-i)) S1
    | _ => .bad
  | .cmp op a b, ρ, S => (evE F a ρ S).bind fun x S1 => (evE F b ρ S1).bind fun y S2 => ok? ((cmpD op x y S2).map .bl) S2
  | .chn op op' a b c, ρ, S => (evE F a ρ S).bind fun x S1 => (evE F b ρ S1).bind fun y S2 => (ok? (cmpD op x y S2) S2).bind fun k _ =>
      if k then (evE F c ρ S2).bind fun z S3 => ok? ((cmpD op' y z S3).map .bl) S3 else .ok (.bl false) S2
  | .and a b, ρ, S => (evE F a ρ S).bind fun x S1 => (blO x S1).bind fun k _ => if k then evE F b ρ S1 else .ok (.bl false) S1
  | .or a b, ρ, S => (evE F a ρ S).bind fun x S1 => (blO x S1).bind fun k _ => if k then .ok (.bl true) S1 else evE F b ρ S1
  | .not a, ρ, S => (evE F a ρ S).bind fun x S1 => (blO x S1).bind fun k _ => .ok (.bl (!k)) S1
  | .one a, ρ, S => evE F a ρ S
  | .ite c a b, ρ, S => (evE F c ρ S).bind fun x S1 => (blO x S1).bind fun k _ => if k then evE F a ρ S1 else evE F b ρ S1
  | .tup es, ρ, S => (evEs F es ρ S).bind fun ds S1 => if ds.length ≤ sizeLine then .ok (.tup ds) S1 else .bad
  | .lst es, ρ, S => (evEs F es ρ S).bind fun ds S1 => if ds.length ≤ sizeLine then newC (.lst ds) S1 else .bad
  | .dsp ks vs, ρ, S => (evEs F ks ρ S).bind fun ks S1 => (evEs F vs ρ S1).bind fun vs S2 => match keys? ks with
    | some qs => if qs.length = vs.length then newC (.dct false (fromPairs [] (qs.zip vs))) S2 else .bad
    | none => .bad
  | .dis es, ρ, S => (evEs F es ρ (S ++ [.dct false []])).bind fun ds S2 => match pairUp ds with
    | some ps => if S2[S.length]? = some (.dct false []) ∧ ps.length ≤ 15 then .ok (.loc S.length) (S2.set S.length (.dct false (fromPairs [] ps))) else .bad
    | none => .bad
  | .isi k e, ρ, S => (evE F e ρ S).bind fun x S1 => match k, x with
    | true, .tup _ => .ok (.bl true) S1
    | false, .int _ => .ok (.bl true) S1
    | _, _ => .bad
  | .call f es, ρ, S => (evEs F es ρ S).bind fun ds S1 => F f ds S1
  | .bf b es, ρ, S => (evEs F es ρ S).bind fun ds S1 => bfD b ds S1
  | .bm m o es, ρ, S => (evE F o ρ S).bind fun x S1 => if bmK m x S1 then (evEs F es ρ S1).bind fun ds S2 => bmD m x ds S2 else .bad
  | .set0, _, S => newC (.set []) S
  | .lrange es, ρ, S => (evEs F es ρ S).bind fun ds S1 => match rangeOf ds with
    | some xs => if xs.length ≤ sizeLine then newC (.lst xs) S1 else .bad
    | none => .bad
  | .ix o i, ρ, S => (evE F o ρ S).bind fun x S1 => (evE F i ρ S1).bind fun y S2 => ok? (ixD x y S2) S2
  | .slc o lo hi, ρ, S => (evE F o ρ S).bind fun x S1 => (evO F lo ρ S1).bind fun l S2 => (evO F hi ρ S2).bind fun h S3 => slD x l h S3
  | .rev o, ρ, S => (evE F o ρ S).bind fun x S1 => match x with
    | .tup xs => .ok (.tup xs.reverse) S1
    | .loc n => match lstAt S1 n with
      | some xs => newC (.lst xs.reverse) S1
      | none => .bad
    | _ => .bad
  | .lc e t it c, ρ, S => (evI F it ρ S).bind fun p S1 => (loopC p.2 (fun x S2 => match bindT t x (wipeE ρ (slotsT t)) with
      | some ρ' => (evC F c ρ' S2).bind fun k S3 => if k then (evE F e ρ' S3).bind fun d S4 => .ok (some d) S4 else .ok none S3
      | none => .bad) S1.length p.1 (S1 ++ [.lst []])).bind fun _ S5 => .ok (.loc S1.length) S5
  | .lc2 e t it t2 it2 c, ρ, S => (evI F it ρ S).bind fun p S1 => (loopO p.2 (fun x S2 => match bindT t x (wipeE ρ (slotsT t ++ slotsT t2)) with
      | some ρ' => (evI F it2 ρ' S2).bind fun q S3 => loopC q.2 (fun y S4 => match bindT t2 y (wipeE ρ' (slotsT t2)) with
        | some ρ2 => (evC F c ρ2 S4).bind fun k S5 => if k then (evE F e ρ2 S5).bind fun d S6 => .ok (some d) S6 else .ok none S5
        | none => .bad) S1.length q.1 S3
      | none => .bad) p.1 (S1 ++ [.lst []])).bind fun _ S5 => .ok (.loc S1.length) S5
  | .dc k v t it, ρ, S => (evI F it ρ S).bind fun p S1 => (loopO p.2 (fun x S2 => match bindT t x (wipeE ρ (slotsT t)) with
      | some ρ' => (evE F k ρ' S2).bind fun y S3 => (evE F v ρ' S3).bind fun z S4 => (gc S2 z S4).bind fun z' S5 => putO S1.length y z' S5
      | none => .bad) p.1 (S1 ++ [.dct false []])).bind fun _ S5 => .ok (.loc S1.length) S5
  | .sc e t it, ρ, S => .bad
/-- a part of a slice -/
def evO (F : Fns) : IO → Env → Store → Out (Option Int)
  | .none, _, S => .ok none S
  | .some e, ρ, S => (evE F e ρ S).bind fun x S1 => match x with
    | .int i => .ok (some i) S1
    | _ => .bad
/-- a comprehension's test -/
def evC (F : Fns) : IO → Env → Store → Out Bool
  | .none, _, S => .ok true S
  | .some e, ρ, S => (evE F e ρ S).bind fun x S1 => ok? (tru S1 x) S1
def evEs (F : Fns) : IEs → Env → Store → Out (List D)
  | .nil, _, S => .ok [] S
  | .cons e es, ρ, S => (evE F e ρ S).bind fun d S1 => (evEs F es ρ S1).bind fun ds S2 => .ok (d :: ds) S2
def evI (F : Fns) : II → Env → Store → Out (List D × Src)
  | .val e, ρ, S => (evE F e ρ S).bind fun x S1 => match walkOf S1 x with
    | some xs => .ok (xs, srcOf x xs) S1
    | none => .bad
  | .range es, ρ, S => (evEs F es ρ S).bind fun ds S1 => match rangeOf ds with
    | some xs => .ok (xs, .free) S1
    | none => .bad
  | .enum e, ρ, S => (evE F e ρ S).bind fun x S1 => match seqOf S1 x with
    | some xs => .ok (enumL 0 xs, srcOf x xs) S1
    | none => .bad
  | .zip a b, ρ, S => (evE F a ρ S).bind fun x S1 => (evE F b ρ S1).bind fun y S2 => match seqOf S2 x, seqOf S2 y with
    | some xs, some ys => .ok (zipL xs ys, .two (srcOf x xs) (srcOf y ys)) S2
    | _, _ => .bad
end
mutual
def asgT (F : Fns) : IT → D → Env → Store → Out Env
  | .nm i, d, ρ, S => if i < ρ.length then .ok (ρ.set i (some d)) S else .bad
  | .sub o i, d, ρ, S => (evE F o ρ S).bind fun x S1 => (evE F i ρ S1).bind fun y S2 => (setD x y d S2).bind fun _ S3 => .ok ρ S3
  | .tup ts, d, ρ, S => match d with
    | .tup ds => if ds.length = slotsTs.len ts then asgTs F ts ds ρ S else .bad
    | _ => .bad
def asgTs (F : Fns) : ITs → List D → Env → Store → Out Env
  | .nil, [], ρ, S => .ok ρ S
  | .cons t ts, d :: ds, ρ, S => (asgT F t d ρ S).bind fun ρ' S' => asgTs F ts ds ρ' S'
  | .nil, _ :: _, _, _ => .bad
  | .cons _ _, [], _, _ => .bad
end
/-- a dict, locked and unlocked -/
def lockS (n : Nat) (kvs : List (Key × D)) (S : Store) : Store := S.set n (.dct true kvs)
def unlockO (n : Nat) (kvs : List (Key × D)) (S : Store) (f : Store → OutS) : OutS := if S[n]? = some (.dct true kvs) then f (S.set n (.dct false kvs)) else .bad
def unlock (n : Nat) (kvs : List (Key × D)) : OutS → OutS
  | .nx ρ S => unlockO n kvs S (.nx ρ)
  | .rt d S => unlockO n kvs S (.rt d)
  | .bk ρ S => unlockO n kvs S (.bk ρ)
  | .ct ρ S => unlockO n kvs S (.ct ρ)
  | .ex _ _ _ => .bad
  | .bad => .bad
mutual
def evS (F : Fns) : IS → Env → Store → OutS
  | .expr e, ρ, S => (evE F e ρ S).bindS fun _ S1 => .nx ρ S1
  | .asg t e, ρ, S => (evE F e ρ S).bindS fun d S1 => (asgT F t d ρ S1).bindS fun ρ' S' => .nx ρ' S'
  | .par2 i j e e', ρ, S => (evE F e ρ S).bindS fun d S1 => (evE F e' ρ S1).bindS fun d' S2 => if i < ρ.length ∧ j < ρ.length then .nx ((ρ.set i (some d)).set j (some d')) S2 else .bad
  | .aug op i e, ρ, S => match ρ[i]? with
    | some (some (.int a)) => (evE F e ρ S).bindS fun y S1 => match y with
      | .int b => match opI op a b with
        | some r => .nx (ρ.set i (some (.int r))) S1
        | none => .bad
      | _ => .bad
    | _ => .bad
  | .ret e, ρ, S => match e with
    | .none => .rt .non S
    | .some e => (evE F e ρ S).bindS fun d S1 => .rt d S1
  | .ife c a b, ρ, S => ((evE F c ρ S).bind truO).bindS fun k S1 => if k then evSs F a ρ S1 else evSs F b ρ S1
  | .whl c b, ρ, S => loopW (fun ρ S => (evE F c ρ S).bind truO) (evSs F b) fuelW ρ S
  | .for_ t it b, ρ, S => (evI F it ρ S).bindS fun p S1 => loopF p.2 (fun x ρ S => (asgT F t x ρ S).bindS fun ρ' S' => evSs F b ρ' S') p.1 ρ S1
  | .forK t i b, ρ, S => match ρ[i]? with
    | some (some (.loc n)) => match S[n]? with
      | some (.dct false kvs) => unlock n kvs (loopF (.dct n kvs) (fun x ρ S => (asgT F t x ρ S).bindS fun ρ' S' => evSs F b ρ' S') (kvs.map fun p => ofKey p.1) ρ (lockS n kvs S))
      | _ => .bad
    | _ => .bad
  | .brk, ρ, S => .bk ρ S
  | .cnt, ρ, S => .ct ρ S
  | .pas, ρ, S => .nx ρ S
  | .nev, ρ, S => .bad
def evSs (F : Fns) : ISs → Env → Store → OutS
  | .nil, ρ, S => .nx ρ S
  | .cons s ss, ρ, S => (evS F s ρ S).bind fun ρ' S' => evSs F ss ρ' S'
end
/-- a def: its parameters' number, its slots', its defaults, its body -/
structure FDef where
  np : Nat
  ns : Nat
  body : ISs
def gcO (S : Store) : Out D → Out D
  | .ok d S' => gc S d S'
  | o => o
def bodyO : OutS → Out D
  | .nx _ S => .ok .non S
  | .rt d S => .ok d S
  | .ex c fs S => .ex c fs S
  | _ => .bad
def callN (Γ : Nat → Option FDef) : Nat → Fns
  | 0, _, _, _ => .bad
  | k + 1, f, ds, S => match Γ f with
    | some d => if ds.length = d.np then gcO S (bodyO (evSs (callN Γ k) d.body (ds.map some ++ List.replicate (d.ns - d.np) none) S)) else .bad
    | none => .bad
end Iv

/-! Iv2: what a value of the machine stands for; how the store lies in the heap; what a step keeps. -/
namespace Iv
open PySem L2

structure G where
  P : Program
  w : World
  K : PySem.W.Frag
  ca : Nat → Addr

/-- a list that nobody writes -/
def RoL (K : PySem.W.Frag) (H : Hp) (a : Addr) (xs : List V) : Prop := (∃ o, H a = some (.frz o (.lst xs))) ∨
  ∃ (o : Obj) (its : Array Value) (n : Nat), K.lookup a = some o ∧ o.cls = .type "list" ∧ o.dict = none ∧ o.data = .seq its n ∧ its.size ≤ sizeLine ∧ Vals xs its.toList
theorem RoL.sq {K : PySem.W.Frag} {H : Hp} {a : Addr} {xs : List V} (h : RoL K H a xs) : SqL K H a xs := by
  rcases h with h | h
  · exact .inl (.inr h)
  · exact .inr h

/-- a tuple, without a dict of its own -/
def TupAt (H : Hp) (a : Addr) (vs : List V) : Prop := ∃ o : Obj, H a = some (.frz o (.tup vs)) ∧ o.dict = none
theorem TupAt.sq {K : PySem.W.Frag} {H : Hp} {a : Addr} {xs : List V} (h : TupAt H a xs) : SqT K H a xs := by
  obtain ⟨o, h, _⟩ := h
  exact .inl (.inr ⟨o, h⟩)
mutual
def Rep (K : PySem.W.Frag) (μ : List Addr) (H : Hp) : D → V → Prop
  | .non, v => v = .non
  | .bl b, v => v = .bl b
  | .int i, v => v = .int i
  | .str x, v => v = .str x
  | .loc n, v => ∃ a, μ[n]? = some a ∧ v = .ref a
  | .tup ds, v => ∃ a vs, v = .ref a ∧ TupAt H a vs ∧ Reps K μ H ds vs
  | .rol ds, v => ∃ a vs, v = .ref a ∧ RoL K H a vs ∧ Reps K μ H ds vs
def Reps (K : PySem.W.Frag) (μ : List Addr) (H : Hp) : List D → List V → Prop
  | [], vs => vs = []
  | d :: ds, vs => ∃ v r, vs = v :: r ∧ Rep K μ H d v ∧ Reps K μ H ds r
end
section
variable {K : PySem.W.Frag} {μ : List Addr} {H : Hp}
theorem Reps.length : ∀ {ds : List D} {vs : List V}, Reps K μ H ds vs → ds.length = vs.length
  | [], vs, h => by have e : vs = [] := h; subst e; rfl
  | d :: ds, vs, h => by
    obtain ⟨v, r, rfl, _, h2⟩ := h
    exact congrArg (· + 1) (Reps.length h2)
theorem Reps.get : ∀ {ds : List D} {vs : List V} {i : Nat} {d : D}, Reps K μ H ds vs → ds[i]? = some d → ∃ v, vs[i]? = some v ∧ Rep K μ H d v
  | [], _, _, _, _, h => by simp at h
  | d :: ds, _, 0, _, h, e => by
    obtain ⟨v, r, rfl, h1, h2⟩ := h
    cases e
    exact ⟨v, rfl, h1⟩
  | d :: ds, _, i + 1, _, h, e => by
    obtain ⟨v, r, rfl, h1, h2⟩ := h
    exact Reps.get (i := i) h2 e
theorem Reps.getV : ∀ {ds : List D} {vs : List V} {i : Nat} {v : V}, Reps K μ H ds vs → vs[i]? = some v → ∃ d, ds[i]? = some d ∧ Rep K μ H d v
  | [], _, i, _, h, e => by have q : _ = [] := h; subst q; simp at e
  | d :: ds, _, 0, _, h, e => by
    obtain ⟨v, r, rfl, h1, h2⟩ := h
    cases e
    exact ⟨d, rfl, h1⟩
  | d :: ds, _, i + 1, _, h, e => by
    obtain ⟨v, r, rfl, h1, h2⟩ := h
    exact Reps.getV (i := i) h2 e
theorem Reps.app : ∀ {ds es : List D} {vs us : List V}, Reps K μ H ds vs → Reps K μ H es us → Reps K μ H (ds ++ es) (vs ++ us)
  | [], es, vs, us, h, q => by have e : vs = [] := h; subst e; exact q
  | d :: ds, es, vs, us, h, q => by
    obtain ⟨v, r, rfl, h1, h2⟩ := h
    exact ⟨v, r ++ us, rfl, h1, Reps.app h2 q⟩
theorem Reps.take : ∀ {ds : List D} {vs : List V} (n : Nat), Reps K μ H ds vs → Reps K μ H (ds.take n) (vs.take n)
  | _, _, 0, _ => rfl
  | [], vs, n + 1, h => by have e : vs = [] := h; subst e; rfl
  | d :: ds, vs, n + 1, h => by
    obtain ⟨v, r, rfl, h1, h2⟩ := h
    exact ⟨v, r.take n, rfl, h1, Reps.take n h2⟩
theorem Reps.drop : ∀ {ds : List D} {vs : List V} (n : Nat), Reps K μ H ds vs → Reps K μ H (ds.drop n) (vs.drop n)
  | _, _, 0, h => h
  | [], vs, n + 1, h => by have e : vs = [] := h; subst e; rfl
  | d :: ds, vs, n + 1, h => by
    obtain ⟨v, r, rfl, h1, h2⟩ := h
    exact Reps.drop n h2
theorem Reps.one {d : D} {v : V} (h : Rep K μ H d v) : Reps K μ H [d] [v] := ⟨v, [], rfl, h, rfl⟩
theorem Reps.rev : ∀ {ds : List D} {vs : List V}, Reps K μ H ds vs → Reps K μ H ds.reverse vs.reverse
  | [], vs, h => by have e : vs = [] := h; subst e; rfl
  | d :: ds, vs, h => by
    obtain ⟨v, r, rfl, h1, h2⟩ := h
    rw [List.reverse_cons, List.reverse_cons]
    exact Reps.app (Reps.rev h2) (Reps.one h1)
theorem Reps.set : ∀ {ds : List D} {vs : List V} {d : D} {v : V} (i : Nat), Reps K μ H ds vs → Rep K μ H d v → Reps K μ H (ds.set i d) (vs.set i v)
  | [], vs, _, _, _, h, _ => by have e : vs = [] := h; subst e; rfl
  | _ :: ds, vs, d, v, 0, h, q => by
    obtain ⟨v', r, rfl, h1, h2⟩ := h
    exact ⟨v, r, rfl, q, h2⟩
  | _ :: ds, vs, d, v, i + 1, h, q => by
    obtain ⟨v', r, rfl, h1, h2⟩ := h
    exact ⟨v', r.set i v, rfl, h1, Reps.set i h2 q⟩
theorem Reps.erase : ∀ {ds : List D} {vs : List V} (i : Nat), Reps K μ H ds vs → Reps K μ H (ds.eraseIdx i) (vs.eraseIdx i)
  | [], vs, _, h => by have e : vs = [] := h; subst e; rfl
  | _ :: ds, vs, 0, h => by
    obtain ⟨v', r, rfl, h1, h2⟩ := h
    exact h2
  | _ :: ds, vs, i + 1, h => by
    obtain ⟨v', r, rfl, h1, h2⟩ := h
    exact ⟨v', r.eraseIdx i, rfl, h1, Reps.erase i h2⟩
theorem Reps.dropLast {ds : List D} {vs : List V} (h : Reps K μ H ds vs) : Reps K μ H ds.dropLast vs.dropLast := by
  rw [List.dropLast_eq_take, List.dropLast_eq_take, h.length]
  exact h.take _
end

section
variable (g : G)
def CellOk (μ : List Addr) (H : Hp) (a : Addr) : Cell → Prop
  | .lst ds => ∃ vs, H a = some (.lst vs) ∧ Reps g.K μ H ds vs
  | .dct lk kvs => ∃ kvs' : List (L2.Key × V), (if lk then ∃ o, H a = some (.frz o (.dK kvs')) else H a = some (.dK kvs')) ∧ kvs.map (·.1) = kvs'.map (·.1) ∧ Reps g.K μ H (kvs.map (·.2)) (kvs'.map (·.2))
  | .dtp kvs => False ∧ H a = some (.dT []) ∧ Reps g.K μ H (kvs.map (·.2)) []
  | .set ks => H a = some (SetK g.P g.w a (fun k => hasK k ks) ks.length) ∧ ks.Nodup
  | .ins c fs => ∃ dx fs', H a = some (.ins (g.ca c) dx fs') ∧ fs.map (·.1) = fs'.map (·.1) ∧ Reps g.K μ H (fs.map (·.2)) (fs'.map (·.2))
structure Rel (μ : List Addr) (S : Store) (H : Hp) : Prop where
  len : μ.length = S.length
  nd : μ.Nodup
  at_ : ∀ (i : Nat) (a : Addr) (c : Cell), μ[i]? = some a → S[i]? = some c → CellOk g μ H a c
end
/-- behind a step -/
structure Ext (K : PySem.W.Frag) (μ μ' : List Addr) (H H' : Hp) : Prop where
  pre : ∃ ν, μ' = μ ++ ν
  fresh : ∀ b ∈ μ', b ∉ μ → H b = none
  keep : ∀ b o, H b = some o → b ∉ μ → H' b = some o
  frz : ∀ b o u, H b = some (.frz o u) → H' b = some (.frz o u)
section
variable {K : PySem.W.Frag} {μ μ1 μ2 : List Addr} {H H1 H2 : Hp}
theorem Ext.tups (e : Ext K μ μ1 H H1) (b : Addr) (vs : List V) (h : TupAt H b vs) : TupAt H1 b vs := by
  obtain ⟨o, h, d⟩ := h
  exact ⟨o, e.frz b o _ h, d⟩
theorem Ext.rols (e : Ext K μ μ1 H H1) (b : Addr) (vs : List V) (h : RoL K H b vs) : RoL K H1 b vs := by
  rcases h with ⟨o, h⟩ | h
  · exact .inl ⟨o, e.frz b o _ h⟩
  · exact .inr h
theorem Ext.refl : Ext K μ μ H H := ⟨⟨[], by simp⟩, fun b h n => absurd h n, fun _ _ h _ => h, fun _ _ _ h => h⟩
theorem Ext.sub (e : Ext K μ μ1 H H1) {b : Addr} (h : b ∈ μ) : b ∈ μ1 := by
  obtain ⟨ν, rfl⟩ := e.pre
  exact List.mem_append_left _ h
theorem Ext.at_ (e : Ext K μ μ1 H H1) {n : Nat} {a : Addr} (h : μ[n]? = some a) : μ1[n]? = some a := by
  obtain ⟨ν, rfl⟩ := e.pre
  have hn : n < μ.length := (List.getElem?_eq_some_iff.mp h).1
  rw [List.getElem?_append_left hn]
  exact h
theorem Ext.trans (e : Ext K μ μ1 H H1) (f : Ext K μ1 μ2 H1 H2) : Ext K μ μ2 H H2 := by
  have key : ∀ b o, H b = some o → b ∉ μ → b ∉ μ1 := fun b o hb hn hm => by
    rw [e.fresh b hm hn] at hb
    cases hb
  refine ⟨?_, fun b hb hn => ?_, fun b o hb hn => f.keep b o (e.keep b o hb hn) (key b o hb hn), fun b o u h => f.frz b o u (e.frz b o u h)⟩
  · obtain ⟨ν, rfl⟩ := e.pre
    obtain ⟨ν', rfl⟩ := f.pre
    exact ⟨ν ++ ν', by simp⟩
  · by_cases h1 : b ∈ μ1
    · exact e.fresh b h1 hn
    · have q := f.fresh b hb h1
      cases hH : H b with
      | none => rfl
      | some o =>
        rw [e.keep b o hH hn] at q
        cases q
mutual
theorem Rep.mono (e : Ext K μ μ1 H H1) : ∀ {d : D} {v : V}, Rep K μ H d v → Rep K μ1 H1 d v
  | .non, _, h | .bl _, _, h | .int _, _, h | .str _, _, h => h
  | .loc n, _, h => by
    obtain ⟨a, h1, h2⟩ := h
    exact ⟨a, e.at_ h1, h2⟩
  | .tup ds, _, h => by
    obtain ⟨a, vs, h1, h2, h3⟩ := h
    exact ⟨a, vs, h1, e.tups a vs h2, Reps.mono e h3⟩
  | .rol ds, _, h => by
    obtain ⟨a, vs, h1, h2, h3⟩ := h
    exact ⟨a, vs, h1, e.rols a vs h2, Reps.mono e h3⟩
theorem Reps.mono (e : Ext K μ μ1 H H1) : ∀ {ds : List D} {vs : List V}, Reps K μ H ds vs → Reps K μ1 H1 ds vs
  | [], _, h => h
  | d :: ds, _, h => by
    obtain ⟨v, r, h0, h1, h2⟩ := h
    exact ⟨v, r, h0, Rep.mono e h1, Reps.mono e h2⟩
end
mutual
/-- data of the store's first places reach no further -/
theorem Rep.cut {n : Nat} (hn : ∀ i, i < n → μ1[i]? = μ[i]?) : ∀ {d : D} {v : V}, d.cl n = true → Rep K μ H d v → Rep K μ1 H d v
  | .non, _, _, h | .bl _, _, _, h | .int _, _, _, h | .str _, _, _, h => h
  | .loc m, _, c, h => by
    obtain ⟨a, h1, h2⟩ := h
    exact ⟨a, by rw [hn m (of_decide_eq_true c)]; exact h1, h2⟩
  | .tup ds, _, c, h => by
    obtain ⟨a, vs, h1, h2, h3⟩ := h
    exact ⟨a, vs, h1, h2, Reps.cut hn c h3⟩
  | .rol ds, _, c, h => by
    obtain ⟨a, vs, h1, h2, h3⟩ := h
    exact ⟨a, vs, h1, h2, Reps.cut hn c h3⟩
theorem Reps.cut {n : Nat} (hn : ∀ i, i < n → μ1[i]? = μ[i]?) : ∀ {ds : List D} {vs : List V}, D.cls n ds = true → Reps K μ H ds vs → Reps K μ1 H ds vs
  | [], _, _, h => h
  | d :: ds, _, c, h => by
    obtain ⟨v, r, h0, h1, h2⟩ := h
    have q := Bool.and_eq_true_iff.mp c
    exact ⟨v, r, h0, Rep.cut hn q.1 h1, Reps.cut hn q.2 h2⟩
end
mutual
theorem Rep.cl : ∀ {d : D} {v : V}, Rep K μ H d v → d.cl μ.length = true
  | .non, _, _ | .bl _, _, _ | .int _, _, _ | .str _, _, _ => rfl
  | .loc m, _, h => by
    obtain ⟨a, h1, h2⟩ := h
    exact decide_eq_true (List.getElem?_eq_some_iff.mp h1).1
  | .tup ds, _, h => by
    obtain ⟨a, vs, h1, h2, h3⟩ := h
    exact Reps.cl h3
  | .rol ds, _, h => by
    obtain ⟨a, vs, h1, h2, h3⟩ := h
    exact Reps.cl h3
theorem Reps.cl : ∀ {ds : List D} {vs : List V}, Reps K μ H ds vs → D.cls μ.length ds = true
  | [], _, _ => rfl
  | d :: ds, _, h => by
    obtain ⟨v, r, h0, h1, h2⟩ := h
    exact Bool.and_eq_true_iff.mpr ⟨Rep.cl h1, Reps.cl h2⟩
end
end
section
variable {g : G} {μ μ1 : List Addr} {H H1 : Hp} {S S1 : Store} {a : Addr} {c : Cell}
theorem CellOk.some : ∀ {c : Cell}, CellOk g μ H a c → ∃ o, H a = some o
  | .lst _, h => by obtain ⟨_, h, _⟩ := h; exact ⟨_, h⟩
  | .dct true _, h => by obtain ⟨_, ⟨_, h⟩, _⟩ := h; exact ⟨_, h⟩
  | .dct false _, h => by obtain ⟨_, h, _⟩ := h; exact ⟨_, h⟩
  | .dtp _, h => h.1.elim
  | .set _, h => ⟨_, h.1⟩
  | .ins _ _, h => by obtain ⟨_, _, h, _⟩ := h; exact ⟨_, h⟩
/-- the cell as it was, its data as they were -/
theorem CellOk.mono (e : Ext g.K μ μ1 H H1) (k : H1 a = H a) : ∀ {c : Cell}, CellOk g μ H a c → CellOk g μ1 H1 a c
  | .lst _, h => by
    obtain ⟨vs, h1, h2⟩ := h
    exact ⟨vs, k.trans h1, Reps.mono e h2⟩
  | .dct true _, h => by
    obtain ⟨vs, ⟨o, h1⟩, h2, h3⟩ := h
    exact ⟨vs, ⟨o, k.trans h1⟩, h2, Reps.mono e h3⟩
  | .dct false _, h => by
    obtain ⟨vs, h1, h2, h3⟩ := h
    exact ⟨vs, k.trans h1, h2, Reps.mono e h3⟩
  | .dtp _, h => h.1.elim
  | .set _, h => ⟨k.trans h.1, h.2⟩
  | .ins _ _, h => by
    obtain ⟨dx, fs, h1, h2, h3⟩ := h
    exact ⟨dx, fs, k.trans h1, h2, Reps.mono e h3⟩
theorem CellOk.cl : ∀ {c : Cell}, CellOk g μ H a c → c.cl μ.length = true
  | .lst _, h => by obtain ⟨_, _, h⟩ := h; exact h.cl
  | .dct _ _, h => by obtain ⟨_, _, _, h⟩ := h; exact h.cl
  | .dtp _, h => h.1.elim
  | .set _, h => rfl
  | .ins _ _, h => by obtain ⟨_, _, _, _, h⟩ := h; exact h.cl
theorem CellOk.cut {n : Nat} (hn : ∀ i, i < n → μ1[i]? = μ[i]?) : ∀ {c : Cell}, c.cl n = true → CellOk g μ H a c → CellOk g μ1 H a c
  | .lst _, q, h => by
    obtain ⟨vs, h1, h2⟩ := h
    exact ⟨vs, h1, Reps.cut hn q h2⟩
  | .dct _ _, q, h => by
    obtain ⟨vs, h1, h2, h3⟩ := h
    exact ⟨vs, h1, h2, Reps.cut hn q h3⟩
  | .dtp _, q, h => h.1.elim
  | .set _, q, h => h
  | .ins _ _, q, h => by
    obtain ⟨dx, fs, h1, h2, h3⟩ := h
    exact ⟨dx, fs, h1, h2, Reps.cut hn q h3⟩
theorem Rel.ex (r : Rel g μ S H) {n : Nat} {c : Cell} (h : S[n]? = some c) : ∃ a, μ[n]? = some a ∧ CellOk g μ H a c := by
  have hn : n < μ.length := by rw [r.len]; exact (List.getElem?_eq_some_iff.mp h).1
  exact ⟨μ[n], List.getElem?_eq_getElem hn, r.at_ n _ c (List.getElem?_eq_getElem hn) h⟩
theorem Rel.mem (r : Rel g μ S H) {b : Addr} (h : b ∈ μ) : ∃ o, H b = some o := by
  obtain ⟨i, hi, e⟩ := List.mem_iff_getElem.mp h
  have hs : i < S.length := by rw [← r.len]; exact hi
  exact (r.at_ i b S[i] (by rw [← e]; exact List.getElem?_eq_getElem hi) (List.getElem?_eq_getElem hs)).some
theorem Rel.nmem (r : Rel g μ S H) {b : Addr} (h : H b = none) : b ∉ μ := fun hm => by
  obtain ⟨o, e⟩ := r.mem hm
  rw [h] at e
  cases e
theorem frz_upd {p b : Addr} {o : HO} {q : Obj} {u : HO} (h : H b = some (.frz q u)) (n : ∀ q u, H p ≠ some (.frz q u)) : upd H p o b = some (.frz q u) := by
  rw [upd_ne]
  · exact h
  · rintro rfl
    exact n q u h
/-- a new object, no place of the store -/
theorem Ext.obj {K : PySem.W.Frag} {p : Addr} {o : HO} (h : H p = none) : Ext K μ μ H (upd H p o) := by
  refine ⟨⟨[], by simp⟩, fun b hb n => absurd hb n, fun b q hb _ => ?_, fun b q u hb => frz_upd hb fun q u => ?_⟩
  · rw [upd_ne (ne_of_none hb h)]
    exact hb
  · rw [h]
    exact fun e => nomatch e
theorem Rel.obj (r : Rel g μ S H) {p : Addr} {o : HO} (h : H p = none) : Rel g μ S (upd H p o) :=
  ⟨r.len, r.nd, fun i b c hb hc => (r.at_ i b c hb hc).mono (Ext.obj h) (upd_ne fun e => r.nmem h (e ▸ List.mem_of_getElem? hb))⟩
/-- a new place -/
theorem Ext.new {K : PySem.W.Frag} {p : Addr} {o : HO} (h : H p = none) : Ext K μ (μ ++ [p]) H (upd H p o) := by
  have e : Ext K μ μ H (upd H p o) := Ext.obj h
  refine ⟨⟨[p], rfl⟩, fun b hb n => ?_, e.keep, e.frz⟩
  rcases List.mem_append.mp hb with hb | hb
  · exact absurd hb n
  · rw [List.mem_singleton.mp hb]
    exact h
theorem Rel.new (r : Rel g μ S H) {p : Addr} {o : HO} (h : H p = none) (hc : CellOk g (μ ++ [p]) (upd H p o) p c) : Rel g (μ ++ [p]) (S ++ [c]) (upd H p o) := by
  have np : p ∉ μ := r.nmem h
  refine ⟨by simp [r.len], ?_, fun i b c' hb hc' => ?_⟩
  · rw [List.nodup_append]
    exact ⟨r.nd, by simp, fun x hx y hy => by rw [List.mem_singleton.mp hy]; rintro rfl; exact np hx⟩
  · by_cases hi : i < μ.length
    · rw [List.getElem?_append_left hi] at hb
      rw [List.getElem?_append_left (by rw [← r.len]; exact hi)] at hc'
      exact (r.at_ i b c' hb hc').mono (Ext.new h) (upd_ne fun e => np (e ▸ List.mem_of_getElem? hb))
    · have hi' : i = μ.length := by
        have := (List.getElem?_eq_some_iff.mp hb).1
        simp at this
        omega
      subst hi'
      rw [List.getElem?_append_right (Nat.le_refl _), Nat.sub_self] at hb
      rw [r.len, List.getElem?_append_right (Nat.le_refl _), Nat.sub_self] at hc'
      cases hb
      cases hc'
      exact hc
/-- a place written -/
theorem Ext.put {K : PySem.W.Frag} {p : Addr} {o : HO} (hm : p ∈ μ) (n1 : ∀ q u, H p ≠ some (.frz q u)) : Ext K μ μ H (upd H p o) :=
  ⟨⟨[], by simp⟩, fun b hb n => absurd hb n, fun b q hb n => by rw [upd_ne (show b ≠ p from fun e => n (by rw [e]; exact hm))]; exact hb, fun b q u hb => frz_upd hb n1⟩
theorem Rel.put (r : Rel g μ S H) {n : Nat} {p : Addr} {o : HO} (hp : μ[n]? = some p) (n1 : ∀ q u, H p ≠ some (.frz q u))
    (hc : CellOk g μ (upd H p o) p c) : Rel g μ (S.set n c) (upd H p o) := by
  have hm : p ∈ μ := List.mem_of_getElem? hp
  refine ⟨by simp [r.len], r.nd, fun i b c' hb hc' => ?_⟩
  by_cases e : i = n
  · subst e
    rw [hp] at hb
    cases hb
    have hs : i < S.length := by rw [← r.len]; exact (List.getElem?_eq_some_iff.mp hp).1
    rw [List.getElem?_set_self hs] at hc'
    cases hc'
    exact hc
  · rw [List.getElem?_set_ne (Ne.symm e)] at hc'
    refine (r.at_ i b c' hb hc').mono (Ext.put hm n1) (upd_ne fun q => e ?_)
    subst q
    exact (List.getElem?_inj (List.getElem?_eq_some_iff.mp hb).1 r.nd).mp (hb.trans hp.symm)
theorem keepC_at {n : Nat} : ∀ {T S : Store} {i : Nat} {c : Cell}, keepC n T S = true → T[i]? = some c → c.cl n = true ∨ S[i]? = some c
  | [], _, _, _, _, e => by simp at e
  | c :: T, [], _, _, h, _ => by cases h
  | c :: T, c0 :: S, 0, _, h, e => by
    cases e
    have q := (Bool.and_eq_true_iff.mp h).1
    rcases Bool.or_eq_true_iff.mp q with q | q
    · right
      rw [of_decide_eq_true q]
      rfl
    · exact .inl q
  | c :: T, c0 :: S, i + 1, _, h, e => keepC_at (i := i) (Bool.and_eq_true_iff.mp h).2 e
/-- what is no longer reached is forgotten -/
theorem Rel.drop {μ' : List Addr} {H' : Hp} {S' : Store} (r : Rel g μ S H) (r' : Rel g μ' S' H') (e : Ext g.K μ μ' H H') (k : keepC S.length (S'.take S.length) S = true) :
    Rel g μ (S'.take S.length) H' ∧ Ext g.K μ μ H H' := by
  obtain ⟨ν, rfl⟩ := e.pre
  have hl : μ.length ≤ S'.length := by
    have := r'.len
    simp at this
    omega
  have hpre : ∀ i, i < μ.length → μ[i]? = (μ ++ ν)[i]? := fun i hi => (List.getElem?_append_left hi).symm
  refine ⟨⟨by rw [List.length_take, ← r.len]; omega, r.nd, fun i a c hb hc => ?_⟩, ⟨[], by simp⟩, fun b hb n => absurd hb n, e.keep, e.frz⟩
  have hi : i < μ.length := (List.getElem?_eq_some_iff.mp hb).1
  have hc' : S'[i]? = some c := by
    rw [List.getElem?_take_of_lt (by rw [← r.len]; exact hi)] at hc
    exact hc
  have ok := r'.at_ i a c ((hpre i hi).symm.trans hb) hc'
  refine ok.cut (n := S.length) (fun j hj => hpre j (by rw [r.len]; exact hj)) ?_
  rcases keepC_at k hc with q | q
  · exact q
  · have z := (r.at_ i a c hb q).cl
    rw [r.len] at z
    exact z
theorem gc_ok {μ' : List Addr} {H' : Hp} {S' : Store} {d : D} {v : V} {Q : D → Store → List Addr → Prop} (r : Rel g μ S H) (r' : Rel g μ' S' H') (e : Ext g.K μ μ' H H') (h : Rep g.K μ' H' d v)
    (q : ∀ d2 S2 μ2, gc S d S' = .ok d2 S2 → Ext g.K μ μ2 H H' → Rel g μ2 S2 H' → Rep g.K μ2 H' d2 v → Q d2 S2 μ2) : ∃ d2 S2 μ2, gc S d S' = .ok d2 S2 ∧ Q d2 S2 μ2 := by
  by_cases k : keepC S.length (S'.take S.length) S = true
  · obtain ⟨r2, e2⟩ := r.drop r' e k
    obtain ⟨ν, hν⟩ := e.pre
    have hpre : ∀ i, i < S.length → μ[i]? = μ'[i]? := fun i hi => by
      rw [hν, List.getElem?_append_left (by rw [r.len]; exact hi)]
    by_cases c : d.cl S.length = true
    · have eg : gc S d S' = .ok d (S'.take S.length) := by
        unfold gc
        rw [if_pos k, if_pos c]
      exact ⟨_, _, _, eg, q _ _ _ eg e2 r2 (h.cut hpre c)⟩
    · cases d with
      | loc m =>
        obtain ⟨a, ha, rfl⟩ := h
        have hm : m < S'.length := by rw [← r'.len]; exact (List.getElem?_eq_some_iff.mp ha).1
        have ec : S'[m]? = some S'[m] := List.getElem?_eq_getElem hm
        by_cases cc : (S'[m]).cl S.length = true
        · have eg : gc S (.loc m) S' = .ok (.loc S.length) (S'.take S.length ++ [S'[m]]) := by
            unfold gc
            rw [if_pos k, if_neg c]
            simp only [ec]
            rw [if_pos cc]
          have ok := (r'.at_ m a _ ha ec)
          have hml : S.length ≤ m := Nat.not_lt.mp fun z => c (decide_eq_true z)
          have na : a ∉ μ := fun hm2 => by
            obtain ⟨i, hi, ei⟩ := List.mem_iff_getElem.mp hm2
            have hi' : i < S.length := by rw [← r.len]; exact hi
            have e1 : μ'[i]? = some a := by
              rw [← hpre i hi', List.getElem?_eq_getElem hi, ei]
            have e2 := (List.getElem?_inj (List.getElem?_eq_some_iff.mp e1).1 r'.nd).mp (e1.trans ha.symm)
            omega
          have hfr : H a = none := e.fresh a (List.mem_of_getElem? ha) na
          have e3 : Ext g.K μ (μ ++ [a]) H H' := ⟨⟨[a], rfl⟩, fun b hb n => by
            rcases List.mem_append.mp hb with hb | hb
            · exact absurd hb n
            · rw [List.mem_singleton.mp hb]
              exact hfr, e.keep, e.frz⟩
          have hpre2 : ∀ i, i < S.length → (μ ++ [a])[i]? = μ'[i]? := fun i hi => by
            rw [List.getElem?_append_left (by rw [r.len]; exact hi)]
            exact hpre i hi
          have r3 : Rel g (μ ++ [a]) (S'.take S.length ++ [S'[m]]) H' := by
            have hlen := r2.len
            refine ⟨by simp only [List.length_append, List.length_singleton]; omega, ?_, fun i b c' hb hc' => ?_⟩
            · rw [List.nodup_append]
              exact ⟨r.nd, by simp, fun x hx y hy => by rw [List.mem_singleton.mp hy]; rintro rfl; exact na hx⟩
            · by_cases hi : i < μ.length
              · rw [List.getElem?_append_left hi] at hb
                rw [List.getElem?_append_left (by omega)] at hc'
                have ok2 := r2.at_ i b c' hb hc'
                have z := ok2.cl
                exact ok2.cut (n := μ.length) (fun j hj => List.getElem?_append_left hj) z
              · have hi' : i = μ.length := by
                  have := (List.getElem?_eq_some_iff.mp hb).1
                  simp at this
                  omega
                subst hi'
                rw [List.getElem?_append_right (Nat.le_refl _), Nat.sub_self] at hb
                rw [hlen, List.getElem?_append_right (Nat.le_refl _), Nat.sub_self] at hc'
                cases hb
                cases hc'
                exact ok.cut (n := S.length) hpre2 cc
          refine ⟨_, _, _, eg, q _ _ _ eg e3 r3 ⟨a, ?_, rfl⟩⟩
          rw [← r.len, List.getElem?_append_right (Nat.le_refl _), Nat.sub_self]
          rfl
        · have eg : gc S (.loc m) S' = .ok (.loc m) S' := by
            unfold gc
            rw [if_pos k, if_neg c]
            simp only [ec]
            rw [if_neg cc]
          exact ⟨_, _, _, eg, q _ _ _ eg e r' ⟨a, ha, rfl⟩⟩
      | tup xs =>
        have eg : gc S (.tup xs) S' = .ok (.tup xs) S' := by
          unfold gc
          rw [if_pos k, if_neg c]
        exact ⟨_, _, _, eg, q _ _ _ eg e r' h⟩
      | rol xs =>
        have eg : gc S (.rol xs) S' = .ok (.rol xs) S' := by
          unfold gc
          rw [if_pos k, if_neg c]
        exact ⟨_, _, _, eg, q _ _ _ eg e r' h⟩
      | non => exact absurd rfl c
      | bl _ => exact absurd rfl c
      | int _ => exact absurd rfl c
      | str _ => exact absurd rfl c
  · have eg : gc S d S' = .ok d S' := by
      unfold gc
      rw [if_neg k]
    exact ⟨_, _, _, eg, q _ _ _ eg e r' h⟩
end
end Iv

set_option maxRecDepth 10000
/-! Iv3: readings by the interpreter; operators. -/
namespace Iv
open PySem PySem.Spec PyProof.Rows L2

/-- an error behind a raise: its class, its fields -/
def XRep (g : G) (μ : List Addr) (H : Hp) (c : Nat) (fs : List (Str × D)) (cls : Value) (d : Option Addr) : Prop :=
  cls = .ref (g.ca c) ∧ ((fs = [] ∧ d = none) ∨ ∃ dx fs', d = some dx ∧ H dx = some (.xd fs') ∧ fs.map (·.1) = fs'.map (·.1) ∧ Reps g.K μ H (fs.map (·.2)) (fs'.map (·.2)))
def Post (g : G) (E : XK) {α : Type} (o : Out α) (μ : List Addr) (H : Hp) (R : α → Store → List Addr → Hp → Prop) : Prop := match o with
  | .ok a S' => ∀ μ' H', Ext g.K μ μ' H H' → Rel g μ' S' H' → R a S' μ' H'
  | .ex c fs S' => ∀ μ' H' cls d, Ext g.K μ μ' H H' → Rel g μ' S' H' → XRep g μ' H' c fs cls d → E cls d H'
  | .bad => False
section
variable {g : G} {E : XK} {α β : Type} {μ μ1 : List Addr} {H H1 : Hp} {S : Store}
theorem Post.pre {o : Out α} {R : α → Store → List Addr → Hp → Prop} (e : Ext g.K μ μ1 H H1) (p : Post g E o μ H R) : Post g E o μ1 H1 R := by
  cases o with
  | ok a S' => exact fun μ' H' e' r => p μ' H' (e.trans e') r
  | ex c fs S' => exact fun μ' H' cls d e' r x => p μ' H' cls d (e.trans e') r x
  | bad => exact p
theorem Post.imp {o : Out α} {R R' : α → Store → List Addr → Hp → Prop} (p : Post g E o μ H R) (h : ∀ a S' μ' H', Ext g.K μ μ' H H' → Rel g μ' S' H' → R a S' μ' H' → R' a S' μ' H') : Post g E o μ H R' := by
  cases o with
  | ok a S' => exact fun μ' H' e' r => h a S' μ' H' e' r (p μ' H' e' r)
  | ex c fs S' => exact p
  | bad => exact p
theorem Post.bind {o : Out α} {f : α → Store → Out β} {R : β → Store → List Addr → Hp → Prop} (p : Post g E (o.bind f) μ H R) : Post g E o μ H fun a S' μ' H' => Post g E (f a S') μ' H' R := by
  cases o with
  | ok a S' => exact fun μ' H' e' r => Post.pre e' p
  | ex c fs S' => exact p
  | bad => exact p
theorem Post.okI {a : α} {R : α → Store → List Addr → Hp → Prop} (p : Post g E (.ok a S) μ H R) (r : Rel g μ S H) : R a S μ H := p μ H Ext.refl r
theorem Post.ok? {o : Option α} {R : α → Store → List Addr → Hp → Prop} (p : Post g E (ok? o S) μ H R) (r : Rel g μ S H) : ∃ a, o = some a ∧ R a S μ H := by
  cases o with
  | some a => exact ⟨a, rfl, Post.okI p r⟩
  | none => exact p.elim
/-- a new place -/
theorem Post.new {c : Cell} {R : D → Store → List Addr → Hp → Prop} {p : Addr} {o : HO} (q : Post g E (newC c S) μ H R) (r : Rel g μ S H) (h : H p = none) (hc : CellOk g (μ ++ [p]) (upd H p o) p c) :
    R (.loc S.length) (S ++ [c]) (μ ++ [p]) (upd H p o) := q _ _ (Ext.new h) (r.new h hc)
theorem Rep.newLoc {K : PySem.W.Frag} {p : Addr} {n : Nat} (h : n = μ.length) : Rep K (μ ++ [p]) H (.loc n) (.ref p) := by
  subst h
  exact ⟨p, by simp, rfl⟩
end
def Slots (K : PySem.W.Frag) (μ : List Addr) (H : Hp) (σ : L2.St) (ρ : Env) : Prop := σ.length = ρ.length ∧ ∀ (i : Nat) (d : D), ρ[i]? = some (some d) → ∃ v, σ[i]? = some (some v) ∧ Rep K μ H d v
section
variable {K : PySem.W.Frag} {μ μ1 : List Addr} {H H1 : Hp} {σ : L2.St} {ρ : Env}
theorem Slots.mono (s : Slots K μ H σ ρ) (e : Ext K μ μ1 H H1) : Slots K μ1 H1 σ ρ := ⟨s.1, fun i d h => by
  obtain ⟨v, h1, h2⟩ := s.2 i d h
  exact ⟨v, h1, h2.mono e⟩⟩
theorem Slots.set (s : Slots K μ H σ ρ) (i : Nat) {d : D} {v : V} (h : Rep K μ H d v) : Slots K μ H (σ.set i (some v)) (ρ.set i (some d)) := by
  refine ⟨by simpa using s.1, fun j d' hj => ?_⟩
  by_cases e : i = j
  · subst e
    have hi : i < ρ.length := by
      have := (List.getElem?_eq_some_iff.mp hj).1
      simpa using this
    rw [List.getElem?_set_self hi] at hj
    cases hj
    exact ⟨v, List.getElem?_set_self (by rw [s.1]; exact hi), h⟩
  · rw [List.getElem?_set_ne e] at hj
    obtain ⟨v', h1, h2⟩ := s.2 j d' hj
    exact ⟨v', by rw [List.getElem?_set_ne e]; exact h1, h2⟩
end
abbrev gX (X : Cx) (ca : Nat → Addr) : G := ⟨X.prog, X.w, X.K, ca⟩
/-- an expression's reading -/
def tE (g : G) (E : XK) (F : Fns) (e : IE) : TE := fun σ H Q => ∃ μ ρ S, Rel g μ S H ∧ Slots g.K μ H σ ρ ∧ Post g E (evE F e ρ S) μ H fun d _ μ' H' => ∀ v, Rep g.K μ' H' d v → Q v H'
def tEs (g : G) (E : XK) (F : Fns) (es : IEs) : TA := fun σ H Q => ∃ μ ρ S, Rel g μ S H ∧ Slots g.K μ H σ ρ ∧ Post g E (evEs F es ρ S) μ H fun ds _ μ' H' => ∀ vs, Reps g.K μ' H' ds vs → Q vs H'
/-- a step of two data, of any -/
def r2 (g : G) (E : XK) (k : D → D → Store → Out D) : R2 := fun x y H Q => ∃ μ S d d', Rel g μ S H ∧ Rep g.K μ H d x ∧ Rep g.K μ H d' y ∧ Post g E (k d d' S) μ H fun d2 _ μ' H' => ∀ v, Rep g.K μ' H' d2 v → Q v H'
def r1 (g : G) (E : XK) (k : D → Store → Out D) : V → Hp → VK → Prop := fun x H Q => ∃ μ S d, Rel g μ S H ∧ Rep g.K μ H d x ∧ Post g E (k d S) μ H fun d2 _ μ' H' => ∀ v, Rep g.K μ' H' d2 v → Q v H'
def rN (g : G) (E : XK) (k : List D → Store → Out D) : List V → Hp → VK → Prop := fun xs H Q => ∃ μ S ds, Rel g μ S H ∧ Reps g.K μ H ds xs ∧ Post g E (k ds S) μ H fun d2 _ μ' H' => ∀ v, Rep g.K μ' H' d2 v → Q v H'
def r1N (g : G) (E : XK) (k : D → List D → Store → Out D) : V → List V → Hp → VK → Prop := fun x xs H Q => ∃ μ S d ds, Rel g μ S H ∧ Rep g.K μ H d x ∧ Reps g.K μ H ds xs ∧ Post g E (k d ds S) μ H fun d2 _ μ' H' => ∀ v, Rep g.K μ' H' d2 v → Q v H'
section
variable {X : Cx} {g : G} {E : XK} {F : Fns}
theorem PE.imp {e : Expr} {t t' : TE} (h : PE X e t) (i : ∀ σ H Q, t' σ H Q → t σ H Q) : PE X e t' := ⟨fun pins s σ H Q I q => h.run pins s σ H Q I (i σ H Q q)⟩
theorem PT.imp {e : Expr} {t t' : TT} (h : PT X e t) (i : ∀ σ H Q, t' σ H Q → t σ H Q) : PT X e t' := ⟨fun pins s σ H Q I q => h.run pins s σ H Q I (i σ H Q q)⟩
theorem PA.imp {e : List Expr} {t t' : TA} (h : PA X e t) (i : ∀ σ H Q, t' σ H Q → t σ H Q) : PA X e t' := ⟨fun pos pins s σ H Q I q => h.run pos pins s σ H Q I (i σ H Q q)⟩
theorem PS.imp {e : Stmt} {t t' : TS} (h : PS X e t) (i : ∀ D σ H, t' D σ H → t D σ H) : PS X e t' := ⟨fun pins s σ H D I q => h.run pins s σ H D I (i D σ H q)⟩
variable {μ : List Addr} {H : Hp} {S : Store} {σ : L2.St} {ρ : Env} {a b : IE} {es : IEs}
theorem one {α : Type} {k : D → Store → Out α} {R : α → Store → List Addr → Hp → Prop} {Q : VK} (r : Rel g μ S H) (sl : Slots g.K μ H σ ρ) (p : Post g E ((evE F a ρ S).bind k) μ H R)
    (h : ∀ x H1 d S1 μ1, Ext g.K μ μ1 H H1 → Rel g μ1 S1 H1 → Rep g.K μ1 H1 d x → Post g E (k d S1) μ1 H1 R → Q x H1) : tE g E F a σ H Q :=
  ⟨μ, ρ, S, r, sl, p.bind.imp fun d S1 μ1 H1 e r1 q v hv => h v H1 d S1 μ1 e r1 hv q⟩
theorem many {α : Type} {k : List D → Store → Out α} {R : α → Store → List Addr → Hp → Prop} {Q : List V → Hp → Prop} (r : Rel g μ S H) (sl : Slots g.K μ H σ ρ) (p : Post g E ((evEs F es ρ S).bind k) μ H R)
    (h : ∀ x H1 d S1 μ1, Ext g.K μ μ1 H H1 → Rel g μ1 S1 H1 → Reps g.K μ1 H1 d x → Post g E (k d S1) μ1 H1 R → Q x H1) : tEs g E F es σ H Q :=
  ⟨μ, ρ, S, r, sl, p.bind.imp fun d S1 μ1 H1 e r1 q v hv => h v H1 d S1 μ1 e r1 hv q⟩
theorem two {α : Type} {k : D → D → Store → Out α} {R : α → Store → List Addr → Hp → Prop} {Q : V → V → Hp → Prop} (r : Rel g μ S H) (sl : Slots g.K μ H σ ρ)
    (p : Post g E ((evE F a ρ S).bind fun x S1 => (evE F b ρ S1).bind fun y S2 => k x y S2) μ H R)
    (h : ∀ x y H2 d d' S2 μ2, Ext g.K μ μ2 H H2 → Rel g μ2 S2 H2 → Rep g.K μ2 H2 d x → Rep g.K μ2 H2 d' y → Post g E (k d d' S2) μ2 H2 R → Q x y H2) : tE g E F a σ H fun x H1 => tE g E F b σ H1 fun y H2 => Q x y H2 :=
  one r sl p fun x H1 d S1 μ1 e1 r1 hx p1 => one r1 (sl.mono e1) p1 fun y H2 d' S2 μ2 e2 r2 hy p2 => h x y H2 d d' S2 μ2 (e1.trans e2) r2 (hx.mono e2) hy p2

/-! ### names, constants -/
theorem e_var {i : Nat} {x : Str} {pos : Pos} (h : PE X (.Name x pos) (tVar i)) : PE X (.Name x pos) (tE g E F (.var i)) := by
  refine PE.imp h fun σ H Q q => ?_
  obtain ⟨μ, ρ, S, r, sl, p⟩ := q
  have p : Post g E (match ρ[i]? with | some (some d) => Out.ok d S | _ => .bad) μ H _ := p
  split at p
  · rename_i d e
    obtain ⟨v, h1, h2⟩ := sl.2 i d e
    exact ⟨v, h1, p.okI r v h2⟩
  · exact p.elim
theorem e_con {e : Expr} {c : D} {v : V} (h : PE X e (tC v)) (hv : ∀ μ H, Rep g.K μ H c v) : PE X e (tE g E F (.con c)) := by
  refine PE.imp h fun σ H Q q => ?_
  obtain ⟨μ, ρ, S, r, sl, p⟩ := q
  exact Post.okI (show Post g E (.ok c S) μ H _ from p) r v (hv μ H)
theorem e_glo {e : Expr} {x : Str} {c : D} {v : V} (h : PE X e (tC v)) (hv : ∀ μ H, Rep g.K μ H c v) : PE X e (tE g E F (.glo x c)) := by
  refine PE.imp h fun σ H Q q => ?_
  obtain ⟨μ, ρ, S, r, sl, p⟩ := q
  exact Post.okI (show Post g E (.ok c S) μ H _ from p) r v (hv μ H)
end

/-! ### operators -/
section
variable {X : Cx} {ca : Nat → Addr} {E : XK} {F : Fns}
theorem op_of {f : Value → Value → Sem Value} {r : R2} {k : D → D → Store → Out D} {pins : List (Addr × Obj)} {s : Shared} {σ : L2.St} {H : Hp} {x y : V} {v u : Value} {Q : VK} (h : OpR X f r) (I : Inv X pins σ H s) (rx : RelV x v) (ry : RelV y u) (q : r x y H Q) :
    wpAny (model X.prog X.w) X.A (f v u) (EP X pins σ Q) X.xe s := h pins s σ H x y v u Q I rx ry q
theorem int_ops {op : Operator} {i j z : Int} (h : opI op i j = some z) {pins : List (Addr × Obj)} {s : Shared} {σ : L2.St} {H : Hp} {v u : Value} {Q : VK} (I : Inv X pins σ H s) (rx : RelV (.int i) v) (ry : RelV (.int j) u) (q : Q (.int z) H) :
    wpAny (model X.prog X.w) X.A (binaryOp op v u) (EP X pins σ Q) X.xe s := by
  cases op with
  | Add => cases h; exact op_of (k := fun _ _ _ => .bad) op_add I rx ry ⟨i, j, rfl, rfl, q⟩
  | Sub => cases h; exact op_of (k := fun _ _ _ => .bad) op_sub I rx ry ⟨i, j, rfl, rfl, q⟩
  | Mult =>
    have h : (if mulOk i j = true then some (i * j) else none) = some z := h
    by_cases c : mulOk i j = true
    · rw [if_pos c] at h
      cases h
      exact op_of (k := fun _ _ _ => .bad) op_mulW I rx ry ⟨i, j, rfl, rfl, of_decide_eq_true (p := i.natAbs.log2 + j.natAbs.log2 < 1000000) c, q⟩
    · rw [if_neg c] at h
      cases h
  | FloorDiv =>
    have h : (if 0 < j ∧ j.natAbs.log2 < 9000 then some (i / j) else none) = some z := h
    by_cases c : 0 < j ∧ j.natAbs.log2 < 9000
    · rw [if_pos c] at h
      cases h
      exact op_of (k := fun _ _ _ => .bad) op_fdivW I rx ry ⟨i, j, rfl, rfl, c, q⟩
    · rw [if_neg c] at h
      cases h
  | Mod =>
    have h : (if 0 < j then some (i % j) else none) = some z := h
    by_cases c : 0 < j
    · rw [if_pos c] at h
      cases h
      exact op_of (k := fun _ _ _ => .bad) op_mod I rx ry ⟨i, j, rfl, rfl, c, q⟩
    · rw [if_neg c] at h
      cases h
  | Pow =>
    have h : (if 0 ≤ j ∧ (Builtin.Int.intBits i : Int) * j ≤ 2 ^ 27 then some (i ^ j.toNat) else none) = some z := h
    by_cases c : 0 ≤ j ∧ (Builtin.Int.intBits i : Int) * j ≤ 2 ^ 27
    · rw [if_pos c] at h
      cases h
      obtain ⟨t, rfl⟩ := rx
      obtain ⟨t', rfl⟩ := ry
      exact pow_int c.1 c.2 ⟨.int _, H, I.tok _, ⟨_, rfl⟩, q⟩
    · rw [if_neg c] at h
      cases h
  | _ => cases h
end
end Iv

set_option maxRecDepth 10000
/-! Iv4: the steps on data, by value. -/
namespace Iv
open PySem PySem.Spec PyProof.Rows L2
section
variable {K : PySem.W.Frag} {μ μ1 : List Addr} {H H1 : Hp} {g : G} {S : Store}
/-- a new tuple -/
theorem Rep.newTup {p : Addr} {o : Obj} {ds : List D} {vs : List V} (h : Reps K μ H ds vs) (n : H p = none) (d : o.dict = none) : Rep K μ (upd H p (.frz o (.tup vs))) (.tup ds) (.ref p) :=
  ⟨p, vs, rfl, ⟨o, upd_same, d⟩, Reps.mono (Ext.obj n) h⟩
theorem Post.tup {E : XK} {p : Addr} {o : Obj} {ds : List D} {vs : List V} {Q : VK} (q : Post g E (.ok (.tup ds) S) μ H fun d _ μ' H' => ∀ v, Rep g.K μ' H' d v → Q v H') (r : Rel g μ S H) (h : Reps g.K μ H ds vs) (n : H p = none) (d : o.dict = none) :
    Q (.ref p) (upd H p (.frz o (.tup vs))) := q μ _ (Ext.obj n) (r.obj n) _ (Rep.newTup h n d)
abbrev tupO (its : List Value) : Obj := { cls := .type "tuple", data := .seq its.toArray }
theorem tup_laid {X : Cx} {pins : List (Addr × Obj)} {σ : L2.St} {H : Hp} {h : Heap} {g : Array GenState} {d : Drawn} {t : Nat} {os : OsState} {its : List Value} {vs : List V} (I : Inv X pins σ H ⟨h, g, d, t, os⟩) (r : Vals vs its) (z : vs.length ≤ sizeLine) :
    Inv X pins σ (upd H h.objs.size (.frz (tupO its) (.tup vs))) ⟨h.push (tupO its), g, d, t, os⟩ := by
  have I2 := I.laid (t' := t) (a := h.objs.size) (o := .frz (tupO its) (.tup vs)) (h' := h.push (tupO its)) (fun b u q => Heap.get?_push_of_some _ q) (Nat.le_refl _) ⟨Heap.get?_push_size _ rfl, z, its, r, IsTup.new _ _⟩
  exact I2
/-- the end of a step that makes a tuple -/
theorem EP.tup {X : Cx} {ca : Nat → Addr} {E : XK} {pins : List (Addr × Obj)} {σ : L2.St} {H : Hp} {h : Heap} {gs : Array GenState} {d : Drawn} {t : Nat} {os : OsState} {its : List Value} {vs : List V} {ds : List D} {Q : VK} {μ : List Addr} {S : Store} (I : Inv X pins σ H ⟨h, gs, d, t, os⟩) (rv : Vals vs its) (z : vs.length ≤ sizeLine)
    (q : Post (gX X ca) E (.ok (.tup ds) S) μ H fun d _ μ' H' => ∀ v, Rep X.K μ' H' d v → Q v H') (r : Rel (gX X ca) μ S H) (hr : Reps X.K μ H ds vs) : EP X pins σ Q (.ref h.objs.size) ⟨h.push (tupO its), gs, d, t, os⟩ :=
  ⟨.ref h.objs.size, _, tup_laid I rv z, rfl, Post.tup q r hr (I.hok.fresh (Nat.le_refl _)) rfl⟩
theorem Post.lst {E : XK} {p : Addr} {ds : List D} {vs : List V} {Q : VK} (q : Post g E (newC (.lst ds) S) μ H fun d _ μ' H' => ∀ v, Rep g.K μ' H' d v → Q v H') (r : Rel g μ S H) (h : Reps g.K μ H ds vs) (n : H p = none) :
    Q (.ref p) (upd H p (.lst vs)) := (Post.new q r n ⟨vs, upd_same, Reps.mono (Ext.new n) h⟩) _ (Rep.newLoc r.len.symm)
theorem Rel.lstAt (r : Rel g μ S H) {n : Nat} {ds : List D} {v : V} (h : Rep g.K μ H (.loc n) v) (e : S[n]? = some (.lst ds)) : ∃ a vs, μ[n]? = some a ∧ v = .ref a ∧ H a = some (.lst vs) ∧ Reps g.K μ H ds vs := by
  obtain ⟨a, ha, rfl⟩ := h
  obtain ⟨vs, h1, h2⟩ := r.at_ n a _ ha e
  exact ⟨a, vs, ha, rfl, h1, h2⟩
/-- lists and tuples, to be read -/
theorem Rel.seqOf (r : Rel g μ S H) {d : D} {ds : List D} {v : V} (h : Rep g.K μ H d v) (e : seqOf S d = some ds) : ∃ a vs, v = .ref a ∧ (SqL g.K H a vs ∨ SqT g.K H a vs) ∧ Reps g.K μ H ds vs := by
  cases d with
  | tup xs =>
    obtain ⟨a, vs, rfl, h2, h3⟩ := h
    cases e
    exact ⟨a, vs, rfl, .inr h2.sq, h3⟩
  | rol xs =>
    obtain ⟨a, vs, rfl, h2, h3⟩ := h
    cases e
    exact ⟨a, vs, rfl, .inl h2.sq, h3⟩
  | loc n =>
    have e : Iv.lstAt S n = some ds := e
    unfold Iv.lstAt at e
    split at e
    · rename_i xs hs
      cases e
      obtain ⟨a, vs, _, h1, h2, h3⟩ := r.lstAt h hs
      exact ⟨a, vs, h1, .inl (.inl (.inl h2)), h3⟩
    · cases e
  | non => cases e
  | bl _ => cases e
  | int _ => cases e
  | str _ => cases e
end
section
variable {X : Cx} {ca : Nat → Addr} {E : XK} {F : Fns}
theorem op_bin {op : Operator} : OpR X (binaryOp op) (r2 (gX X ca) E (opD op)) := by
  intro pins s σ H x y v u Q I rx ry h
  obtain ⟨μ, S, d, d', r, hx, hy, p⟩ := h
  cases d with
  | int i =>
    obtain rfl : x = .int i := hx
    cases d' with
    | int j =>
      obtain rfl : y = .int j := hy
      replace p : Post _ E (ok? ((opI op i j).map D.int) S) μ H _ := p
      obtain ⟨a, ea, q⟩ := p.ok? r
      obtain ⟨z, ez, rfl⟩ := Option.map_eq_some_iff.mp ea
      exact int_ops ez I rx ry (q _ rfl)
    | _ => exact p.elim
  | str a =>
    obtain rfl : x = .str a := hx
    cases d' with
    | str b =>
      obtain rfl : y = .str b := hy
      replace p : Post _ E (if op = .Add ∧ a.length + b.length ≤ sizeLine then Out.ok (D.str (a ++ b)) S else .bad) μ H _ := p
      split at p
      · rename_i c
        obtain ⟨rfl, c⟩ := c
        exact op_of (k := fun _ _ _ => .bad) op_add_str I rx ry ⟨a, b, rfl, rfl, c, p.okI r _ rfl⟩
      · exact p.elim
    | int k =>
      obtain rfl : y = .int k := hy
      replace p : Post _ E (if op = .Mult ∧ a.length ≤ 16 ∧ 0 ≤ k ∧ k ≤ 1048576 then Out.ok (D.str (Txt.mul a k)) S else .bad) μ H _ := p
      split at p
      · rename_i c
        obtain ⟨rfl, c1, c2, c3⟩ := c
        obtain ⟨t, rfl⟩ := rx
        obtain ⟨t', rfl⟩ := ry
        exact PySem.W.KXi.mul rfl c1 (by omega) (by omega) fun t' tk _ _ => ⟨.str _, H, I.tok _, ⟨_, rfl⟩, p.okI r _ rfl⟩
      · exact p.elim
    | _ => exact p.elim
  | tup a =>
    cases d' with
    | tup b =>
      obtain ⟨q1, xs, rfl, h1, h2⟩ := hx
      obtain ⟨q2, ys, rfl, h3, h4⟩ := hy
      replace p : Post _ E (if op = .Add ∧ a.length + b.length ≤ sizeLine then Out.ok (D.tup (a ++ b)) S else .bad) μ H _ := p
      split at p
      · rename_i c
        obtain ⟨rfl, c⟩ := c
        cases rx
        cases ry
        obtain ⟨its, v1, p1, _⟩ := I.tuple h1.sq
        obtain ⟨its2, v2, p2, _⟩ := I.tuple h3.sq
        have hz : xs.length + ys.length ≤ sizeLine := by rw [← h2.length, ← h4.length]; exact c
        by_cases e1 : xs = []
        · subst e1
          have ea : a = [] := List.eq_nil_of_length_eq_zero h2.length
          subst ea
          cases v1
          exact cat_tup0 p1 p2 ⟨.ref q2, H, I, rfl, p.okI r _ ⟨q2, ys, rfl, h3, h4⟩⟩
        · refine HT.cat_tup p1 p2 (fun z => e1 (v1.nil_iff.mp z)) (fun z => ⟨.ref q1, H, I, rfl, p.okI r _ ⟨q1, xs, rfl, h1, ?_⟩⟩) (fun z => ?_) (by rw [← v1.length, ← v2.length]; exact hz)
          · have e2 : ys = [] := v2.nil_iff.mp z
            subst e2
            have eb : b = [] := List.eq_nil_of_length_eq_zero h4.length
            subst eb
            rw [List.append_nil]
            exact h2
          · obtain ⟨hh, gs, dd, tk, os⟩ := s
            exact EP.tup I (v1.append v2) (by rw [List.length_append]; exact hz) p r (h2.app h4)
      · exact p.elim
    | _ => exact p.elim
  | loc m =>
    cases d' with
    | loc n =>
      replace p : Post _ E (match op, S[m]?, S[n]? with | .Add, some (.lst xs), some (.lst ys) => if xs.length + ys.length ≤ sizeLine then newC (.lst (xs ++ ys)) S else .bad | _, _, _ => .bad) μ H _ := p
      split at p
      · rename_i xs ys e1 e2
        split at p
        · rename_i c
          obtain ⟨a, vs, _, rfl, h1, h2⟩ := r.lstAt hx e1
          obtain ⟨b, us, _, rfl, h3, h4⟩ := r.lstAt hy e2
          exact op_of (k := fun _ _ _ => .bad) op_cat I rx ry ⟨a, b, vs, us, rfl, rfl, h1, h3, by rw [← h2.length, ← h4.length]; exact c, fun t ht => Post.lst p r (h2.app h4) ht⟩
        · exact p.elim
      · exact p.elim
    | int k =>
      obtain rfl : y = .int k := hy
      replace p : Post _ E (match op, S[m]? with | .Mult, some (.lst xs) => if 0 ≤ k ∧ k < 2 ^ 62 ∧ xs.length * k.toNat ≤ sizeLine then newC (.lst (List.replicate k.toNat xs).flatten) S else .bad | _, _ => .bad) μ H _ := p
      split at p
      · rename_i xs e1
        split at p
        · rename_i c
          obtain ⟨a, vs, _, rfl, h1, h2⟩ := r.lstAt hx e1
          have hr : ∀ n : Nat, Reps X.K μ H (List.replicate n xs).flatten (List.replicate n vs).flatten := by
            intro n
            induction n with
            | zero => exact rfl
            | succ n ih =>
              rw [List.replicate_succ, List.replicate_succ, List.flatten_cons, List.flatten_cons]
              exact h2.app ih
          exact op_of (k := fun _ _ _ => .bad) op_rep I rx ry ⟨a, k, vs, rfl, rfl, h1, by omega, by omega, by rw [← h2.length]; exact c.2.2, fun t ht => Post.lst p r (hr _) ht⟩
        · exact p.elim
      · exact p.elim
    | _ => exact p.elim
  | _ => exact p.elim

/-! ### data as trees -/
mutual
theorem dp_of {g : G} {μ : List Addr} {H : Hp} {S : Store} (r : Rel g μ S H) : ∀ (n : Nat) (d : D) (v : V) (y : PyData), toPy S n d = some y → Rep g.K μ H d v → Dp g.K H v y
  | n, .non, v, y, e, h => by
    cases n <;> (simp only [toPy] at e; cases e; cases h; exact .non)
  | n, .bl b, v, y, e, h => by
    cases n <;> (simp only [toPy] at e; cases e; cases h; exact .bl b)
  | n, .int b, v, y, e, h => by
    cases n <;> (simp only [toPy] at e; cases e; cases h; exact .int b)
  | n, .str b, v, y, e, h => by
    cases n <;> (simp only [toPy] at e; cases e; cases h; exact .str b)
  | 0, .tup _, _, _, e, _ => by cases e
  | 0, .rol _, _, _, e, _ => by cases e
  | 0, .loc _, _, _, e, _ => by cases e
  | n + 1, .tup xs, v, y, e, h => by
    simp only [toPy] at e
    obtain ⟨ys, ey, rfl⟩ := Option.map_eq_some_iff.mp e
    obtain ⟨a, vs, rfl, h1, h2⟩ := h
    exact .tup h1.sq (dps_of r n xs vs ys ey h2)
  | n + 1, .rol xs, v, y, e, h => by
    simp only [toPy] at e
    obtain ⟨ys, ey, rfl⟩ := Option.map_eq_some_iff.mp e
    obtain ⟨a, vs, rfl, h1, h2⟩ := h
    exact .lst h1.sq (dps_of r n xs vs ys ey h2)
  | n + 1, .loc m, v, y, e, h => by
    simp only [toPy] at e
    obtain ⟨xs, ex, e⟩ := Option.bind_eq_some_iff.mp e
    obtain ⟨ys, ey, rfl⟩ := Option.map_eq_some_iff.mp e
    unfold Iv.lstAt at ex
    split at ex
    · rename_i zs hs
      cases ex
      obtain ⟨a, vs, _, rfl, h1, h2⟩ := r.lstAt h hs
      exact .lst (.inl (.inl h1)) (dps_of r n xs vs ys ey h2)
    · cases ex
  termination_by n d => (n, sizeOf d)
theorem dps_of {g : G} {μ : List Addr} {H : Hp} {S : Store} (r : Rel g μ S H) : ∀ (n : Nat) (ds : List D) (vs : List V) (ys : List PyData), mapO (toPy S n) ds = some ys → Reps g.K μ H ds vs → DpAll g.K H vs ys
  | n, [], vs, ys, e, h => by
    cases e
    obtain rfl : vs = [] := h
    exact .nil
  | n, d :: ds, vs, ys, e, h => by
    unfold mapO at e
    obtain ⟨v, q, rfl, h1, h2⟩ := h
    split at e
    · rename_i b bs e1 e2
      cases e
      exact .cons (dp_of r n d v b e1 h1) (dps_of r n ds q bs e2 h2)
    · cases e
  termination_by n ds => (n, sizeOf ds)
end
theorem mapO_len {α β : Type} {f : α → Option β} : ∀ {xs : List α} {ys : List β}, mapO f xs = some ys → ys.length = xs.length
  | [], _, e => by cases e; rfl
  | a :: as, ys, e => by
    unfold mapO at e
    split at e
    · rename_i b bs e1 e2
      cases e
      exact congrArg (· + 1) (mapO_len e2)
    · cases e
theorem mapO_mem {α β : Type} {f : α → Option β} : ∀ {xs : List α} {ys : List β} {y : β}, mapO f xs = some ys → y ∈ ys → ∃ x ∈ xs, f x = some y
  | [], _, _, e, h => by cases e; cases h
  | a :: as, ys, y, e, h => by
    unfold mapO at e
    split at e
    · rename_i b bs e1 e2
      cases e
      rcases List.mem_cons.mp h with rfl | h
      · exact ⟨a, List.mem_cons_self, e1⟩
      · obtain ⟨x, hx, q⟩ := mapO_mem e2 h
        exact ⟨x, List.mem_cons_of_mem _ hx, q⟩
    · cases e
mutual
theorem plain_of {S : Store} : ∀ (n : Nat) (d : D) (y : PyData), toPy S n d = some y → y.plain = true ∧ y.depth ≤ n ∧ y.hasDict = false
  | n, .non, y, e => by cases n <;> (simp only [toPy] at e; cases e; exact ⟨rfl, Nat.zero_le _, rfl⟩)
  | n, .bl b, y, e => by cases n <;> (simp only [toPy] at e; cases e; exact ⟨rfl, Nat.zero_le _, rfl⟩)
  | n, .int b, y, e => by cases n <;> (simp only [toPy] at e; cases e; exact ⟨rfl, Nat.zero_le _, rfl⟩)
  | n, .str b, y, e => by cases n <;> (simp only [toPy] at e; cases e; exact ⟨rfl, Nat.zero_le _, rfl⟩)
  | 0, .tup _, _, e => by cases e
  | 0, .rol _, _, e => by cases e
  | 0, .loc _, _, e => by cases e
  | n + 1, .tup xs, y, e => by
    simp only [toPy] at e
    obtain ⟨ys, ey, rfl⟩ := Option.map_eq_some_iff.mp e
    obtain ⟨h1, h2, h3⟩ := plains_of n xs ys ey
    exact ⟨h1, Nat.succ_le_succ h2, h3⟩
  | n + 1, .rol xs, y, e => by
    simp only [toPy] at e
    obtain ⟨ys, ey, rfl⟩ := Option.map_eq_some_iff.mp e
    obtain ⟨h1, h2, h3⟩ := plains_of n xs ys ey
    exact ⟨h1, Nat.succ_le_succ h2, h3⟩
  | n + 1, .loc m, y, e => by
    simp only [toPy] at e
    obtain ⟨xs, ex, e⟩ := Option.bind_eq_some_iff.mp e
    obtain ⟨ys, ey, rfl⟩ := Option.map_eq_some_iff.mp e
    obtain ⟨h1, h2, h3⟩ := plains_of n xs ys ey
    exact ⟨h1, Nat.succ_le_succ h2, h3⟩
  termination_by n d => (n, sizeOf d)
theorem plains_of {S : Store} : ∀ (n : Nat) (ds : List D) (ys : List PyData), mapO (toPy S n) ds = some ys → PyData.plainAll ys = true ∧ PyData.depthAll ys ≤ n ∧ PyData.hasDictAll ys = false
  | n, [], ys, e => by cases e; exact ⟨rfl, Nat.zero_le _, rfl⟩
  | n, d :: ds, ys, e => by
    unfold mapO at e
    split at e
    · rename_i b bs e1 e2
      cases e
      obtain ⟨h1, h2, h3⟩ := plain_of n d b e1
      obtain ⟨k1, k2, k3⟩ := plains_of n ds bs e2
      refine ⟨Bool.and_eq_true_iff.mpr ⟨h1, k1⟩, Nat.max_le.mpr ⟨h2, k2⟩, ?_⟩
      show (b.hasDict || PyData.hasDictAll bs) = false
      rw [h3, k3]
      rfl
    · cases e
  termination_by n ds => (n, sizeOf ds)
end
section
variable {X : Cx} {ca : Nat → Addr} {E : XK}
theorem fin_b {pins : List (Addr × Obj)} {σ : L2.St} {H : Hp} {s : Shared} {Q : VK} {k : Bool} (I : Inv X pins σ H s) (q : Q (.bl k) H) : EP X pins σ Q (.bool k) s := ⟨.bl k, H, I, rfl, q⟩
/-- a test of two data by its trees -/
theorem op_cmpEq (hu : X.A.units + 100 < cLine) : OpR X (compareOp .Eq) (r2 (gX X ca) E fun a b S => ok? ((eqD a b S).map .bl) S) := by
  intro pins s σ H x y v u Q I rx ry h
  obtain ⟨μ, S, d, d', r, hx, hy, p⟩ := h
  obtain ⟨z, ez, q⟩ := p.ok? r
  obtain ⟨k, ek, rfl⟩ := Option.map_eq_some_iff.mp ez
  unfold eqD at ek
  split at ek
  · rename_i a b e1 e2
    cases ek
    obtain ⟨as, r1⟩ := Dp.reads I a x v (dp_of r 8 d x a e1 hx) rx
    obtain ⟨bs, r2⟩ := Dp.reads I b y u (dp_of r 8 d' y b e2 hy) ry
    obtain ⟨p1, d1, _⟩ := plain_of 8 d a e1
    obtain ⟨p2, d2, _⟩ := plain_of 8 d' b e2
    exact SeqAt.eq_plain r1 r2 p1 p2 (by have := Nat.min_le_left a.depth b.depth; omega) (fin_b I (q _ rfl))
  · cases ek
theorem op_cmpNe (hu : X.A.units + 100 < cLine) : OpR X (compareOp .NotEq) (r2 (gX X ca) E fun a b S => ok? (((eqD a b S).map not).map .bl) S) := by
  intro pins s σ H x y v u Q I rx ry h
  obtain ⟨μ, S, d, d', r, hx, hy, p⟩ := h
  obtain ⟨z, ez, q⟩ := p.ok? r
  obtain ⟨k0, ek0, rfl⟩ := Option.map_eq_some_iff.mp ez
  obtain ⟨k, ek, rfl⟩ := Option.map_eq_some_iff.mp ek0
  clear ek0
  unfold eqD at ek
  split at ek
  · rename_i a b e1 e2
    cases ek
    obtain ⟨as, r1⟩ := Dp.reads I a x v (dp_of r 8 d x a e1 hx) rx
    obtain ⟨bs, r2⟩ := Dp.reads I b y u (dp_of r 8 d' y b e2 hy) ry
    obtain ⟨p1, d1, _⟩ := plain_of 8 d a e1
    obtain ⟨p2, d2, _⟩ := plain_of 8 d' b e2
    exact SeqAt.ne_plain r1 r2 p1 p2 (by have := Nat.min_le_left a.depth b.depth; omega) (fin_b I (q _ rfl))
  · cases ek
end
end
end Iv

set_option maxRecDepth 10000
/-! Iv5: more steps on data: in, the order, is None; subscripts, slices. -/
namespace Iv
open PySem PySem.Spec PyProof.Rows L2
section
variable {K : PySem.W.Frag} {μ : List Addr} {H : Hp} {g : G} {S : Store} {E : XK}
theorem key_rep {d : D} {k : Key} {v : V} (e : D.key? d = some k) (h : Rep K μ H d v) : v = kV k := by
  cases d with
  | int i => cases e; exact h
  | str x => cases e; exact h
  | _ => cases e
theorem keys_rep : ∀ {ds : List D} {ks : List Key} {vs : List V}, keys? ds = some ks → Reps K μ H ds vs → vs = ks.map kV
  | [], ks, vs, e, h => by cases e; exact h
  | d :: ds, ks, vs, e, h => by
    unfold keys? at e
    obtain ⟨v, r, rfl, h1, h2⟩ := h
    split at e
    · rename_i k ks' e1 e2
      cases e
      rw [key_rep e1 h1, keys_rep e2 h2]
      rfl
    · cases e
theorem look_rep {κ : Type} [DecidableEq κ] : ∀ {kvs : List (κ × D)} {kvs' : List (κ × V)} {k : κ}, kvs.map (·.1) = kvs'.map (·.1) → Reps K μ H (kvs.map (·.2)) (kvs'.map (·.2)) →
    match lookA k kvs, valV kvs' k with
    | some d, some v => Rep K μ H d v
    | none, none => True
    | _, _ => False
  | [], [], k, _, _ => trivial
  | [], _ :: _, _, e, _ => by cases e
  | _ :: _, [], _, e, _ => by cases e
  | (a, d) :: r, (b, v) :: r', k, e, h => by
    obtain ⟨e1, e2⟩ := List.cons.inj e
    obtain ⟨v', q, ev, h1, h2⟩ := h
    obtain ⟨rfl, rfl⟩ := List.cons.inj ev
    have e1 : a = b := e1
    subst e1
    unfold lookA
    by_cases c : a = k
    · rw [if_pos c, valV_pos (p := (a, v)) c]
      exact h1
    · rw [if_neg c, valV_neg (p := (a, v)) c]
      exact look_rep e2 h2
theorem look_some {κ : Type} [DecidableEq κ] {kvs : List (κ × D)} {kvs' : List (κ × V)} {k : κ} (e : kvs.map (·.1) = kvs'.map (·.1)) (h : Reps K μ H (kvs.map (·.2)) (kvs'.map (·.2))) : (lookA k kvs).isSome = (valV kvs' k).isSome := by
  have q := look_rep (k := k) e h
  cases h1 : lookA k kvs <;> cases h2 : valV kvs' k <;> (rw [h1, h2] at q) <;> first | rfl | exact q.elim
theorem put_rep {κ : Type} [DecidableEq κ] {d : D} {v : V} {k : κ} (hd : Rep K μ H d v) : ∀ {kvs : List (κ × D)} {kvs' : List (κ × V)}, kvs.map (·.1) = kvs'.map (·.1) → Reps K μ H (kvs.map (·.2)) (kvs'.map (·.2)) → (kvs'.map (·.1)).Nodup →
    (putA k d kvs).map (·.1) = (putK kvs' k v).map (·.1) ∧ Reps K μ H ((putA k d kvs).map (·.2)) ((putK kvs' k v).map (·.2))
  | [], [], _, _, _ => ⟨rfl, Reps.one hd⟩
  | [], _ :: _, e, _, _ => by cases e
  | _ :: _, [], e, _, _ => by cases e
  | (a, d') :: r, (b, v') :: r', e, h, nd => by
    obtain ⟨e1, e2⟩ := List.cons.inj e
    obtain ⟨v2, q, ev, h1, h2⟩ := h
    obtain ⟨rfl, rfl⟩ := List.cons.inj ev
    have e1 : a = b := e1
    subst e1
    obtain ⟨na, nd'⟩ := List.nodup_cons.mp nd
    unfold putA putK
    by_cases c : a = k
    · subst c
      have hid : (r'.map fun kv => if kv.1 = a then (kv.1, v) else kv) = r' := by
        have : ∀ kv ∈ r', (if kv.1 = a then (kv.1, v) else kv) = kv := fun kv hk => by
          rw [if_neg]
          intro z
          exact na (z ▸ List.mem_map_of_mem (f := (·.1)) hk)
        exact (List.map_congr_left this).trans (List.map_id _)
      rw [if_pos rfl, if_pos (by simp)]
      simp only [List.map_cons, if_true]
      rw [hid]
      exact ⟨by rw [e2], ⟨v, _, rfl, hd, h2⟩⟩
    · obtain ⟨i1, i2⟩ := put_rep (k := k) hd e2 h2 nd'
      unfold putK at i1 i2
      rw [if_neg c]
      have ea : (((a, v') :: r').any fun kv => decide (kv.1 = k)) = r'.any fun kv => decide (kv.1 = k) := by
        rw [List.any_cons]
        simp [c]
      rw [ea]
      by_cases c2 : (r'.any fun kv => decide (kv.1 = k)) = true
      · rw [if_pos c2] at i1 i2 ⊢
        simp only [List.map_cons, c, if_false] at i1 i2 ⊢
        exact ⟨by rw [i1], ⟨v', _, rfl, h1, i2⟩⟩
      · rw [if_neg c2] at i1 i2 ⊢
        simp only [List.map_cons, List.cons_append] at i1 i2 ⊢
        exact ⟨by rw [i1], ⟨v', _, rfl, h1, i2⟩⟩
end
section
variable {X : Cx} {ca : Nat → Addr} {E : XK}
/-- x in a list, a tuple -/
theorem in_seq (hu : X.A.units + 100 < cLine) {neg : Bool} {pins : List (Addr × Obj)} {s : Shared} {σ : L2.St} {H : Hp} {x y : V} {v u : Value} {Q : VK} {μ : List Addr} {S : Store} {d d' : D} {xs : List D} {k : Bool} (I : Inv X pins σ H s) (rx : RelV x v) (ry : RelV y u)
    (r : Rel (gX X ca) μ S H) (hx : Rep X.K μ H d x) (hy : Rep X.K μ H d' y) (hs : seqOf S d' = some xs) (e : inL d xs S = some k) (q : Q (.bl (if neg then !k else k)) H) :
    wpAny (model X.prog X.w) X.A (compareOp (if neg then .NotIn else .In) v u) (EP X pins σ Q) X.xe s := by
  unfold inL at e
  split at e
  · rename_i a b e1 e2
    cases e
    obtain ⟨as, r1⟩ := Dp.reads I a x v (dp_of r 8 d x a e1 hx) rx
    obtain ⟨p1, d1, _⟩ := plain_of 8 d a e1
    obtain ⟨p2, d2, _⟩ := plains_of 8 xs b e2
    have hm : X.A.units + 1 + min (PyData.depthAll b) a.depth < cLine := by have := Nat.min_le_right (PyData.depthAll b) a.depth; omega
    obtain ⟨p, vs, rfl, h1, h2⟩ := r.seqOf hy hs
    cases ry
    rcases h1 with h1 | h1
    · obtain ⟨bs, r2⟩ := Dp.reads I (.list b) _ _ (.lst h1 (dps_of r 8 xs vs b e2 h2)) (show RelV (.ref p) (.ref p) from rfl)
      cases neg with
      | true => exact SeqAt.notIn_list_data r2 r1 p2 p1 hm (fin_b I q)
      | false => exact SeqAt.in_list_data r2 r1 p2 p1 hm (fin_b I q)
    · obtain ⟨bs, r2⟩ := Dp.reads I (.tuple b) _ _ (.tup h1 (dps_of r 8 xs vs b e2 h2)) (show RelV (.ref p) (.ref p) from rfl)
      cases neg with
      | true => exact SeqAt.notIn_tuple_data r2 r1 p2 p1 hm (fin_b I q)
      | false => exact SeqAt.in_tuple_data r2 r1 p2 p1 hm (fin_b I q)
  · cases e
theorem in_any (hu : X.A.units + 100 < cLine) {neg : Bool} {pins : List (Addr × Obj)} {s : Shared} {σ : L2.St} {H : Hp} {x y : V} {v u : Value} {Q : VK} {μ : List Addr} {S : Store} {d d' : D} {k : Bool} (I : Inv X pins σ H s) (rx : RelV x v) (ry : RelV y u)
    (r : Rel (gX X ca) μ S H) (hx : Rep X.K μ H d x) (hy : Rep X.K μ H d' y) (e : inD d d' S = some k) (q : Q (.bl (if neg then !k else k)) H) :
    wpAny (model X.prog X.w) X.A (compareOp (if neg then .NotIn else .In) v u) (EP X pins σ Q) X.xe s := by
  have dctcase : ∀ (b : Addr) (yk : V) (o : Option V), y = .ref b → DGet H b x o → o.isSome = k → wpAny (model X.prog X.w) X.A (compareOp (if neg then .NotIn else .In) v u) (EP X pins σ Q) X.xe s := by
    intro b yk o hyb gt ho
    subst hyb
    cases ry
    cases neg with
    | true => exact d_notIn (by omega) I gt rx fun s' I' => fin_b I' (by rw [ho]; exact q)
    | false => exact d_in (by omega) I gt rx fun s' I' => fin_b I' (by rw [ho]; exact q)
  cases d' with
  | tup xs => exact in_seq hu I rx ry r hx hy rfl e q
  | rol xs => exact in_seq hu I rx ry r hx hy rfl e q
  | str z =>
    obtain rfl : y = .str z := hy
    cases d with
    | str a =>
      obtain rfl : x = .str a := hx
      cases e
      cases neg with
      | true => exact op_of (k := fun _ _ _ => .bad) op_notin_str I rx ry ⟨a, z, rfl, rfl, q⟩
      | false => exact op_of (k := fun _ _ _ => .bad) op_in_str I rx ry ⟨a, z, rfl, rfl, q⟩
    | _ => cases e
  | loc n =>
    simp only [inD] at e
    split at e
    · rename_i xs hs
      exact in_seq hu I rx ry r hx hy (show Iv.lstAt S n = some xs by unfold Iv.lstAt; rw [hs]) e q
    · rename_i lk kvs hs
      obtain ⟨kk, ek, rfl⟩ := Option.map_eq_some_iff.mp e
      obtain ⟨b, hb, rfl⟩ := hy
      obtain ⟨kvs', h1, h2, h3⟩ := r.at_ n b _ hb hs
      refine dctcase b x (valV kvs' kk) rfl (.inl ⟨kvs', kk, ?_, key_rep ek hx, rfl⟩) (look_some h2 h3).symm
      cases lk with
      | true => exact .inr h1
      | false => exact .inl h1
    · rename_i kvs hs
      split at e
      · rename_i ks
        obtain ⟨kk, ek, rfl⟩ := Option.map_eq_some_iff.mp e
        obtain ⟨b, hb, rfl⟩ := hy
        exact (r.at_ n b _ hb hs).1.elim
      · cases e
    · rename_i ks hs
      obtain ⟨kk, ek, rfl⟩ := Option.map_eq_some_iff.mp e
      obtain ⟨b, hb, rfl⟩ := hy
      obtain ⟨h1, h2⟩ := r.at_ n b _ hb hs
      cases neg with
      | true => exact op_of (k := fun _ _ _ => .bad) or_snotinK I rx ry ⟨kk, b, _, _, key_rep ek hx, rfl, h1, q⟩
      | false => exact op_of (k := fun _ _ _ => .bad) or_sinK I rx ry ⟨kk, b, _, _, key_rep ek hx, rfl, h1, q⟩
    · cases e
  | _ => cases e
end
end Iv

set_option maxRecDepth 10000
/-! Iv6: comparisons, subscripts, slices of any data. -/
namespace Iv
open PySem PySem.Spec PyProof.Rows L2
section
variable {X : Cx} {ca : Nat → Addr} {E : XK}
theorem in_op (hu : X.A.units + 100 < cLine) {neg : Bool} : OpR X (compareOp (if neg then .NotIn else .In)) (r2 (gX X ca) E fun a b S => ok? (((inD a b S).map fun k => if neg then !k else k).map .bl) S) := by
  intro pins s σ H x y v u Q I rx ry h
  obtain ⟨μ, S, d, d', r, hx, hy, p⟩ := h
  obtain ⟨z, ez, q⟩ := p.ok? r
  obtain ⟨k0, ek0, rfl⟩ := Option.map_eq_some_iff.mp ez
  obtain ⟨k, ek, rfl⟩ := Option.map_eq_some_iff.mp ek0
  exact in_any hu I rx ry r hx hy ek (q _ rfl)
theorem ok_bl {o : Option Bool} {g : G} {μ : List Addr} {H : Hp} {S : Store} {Q : VK} (p : Post g E (ok? (o.map .bl) S) μ H fun d2 _ μ' H' => ∀ v, Rep g.K μ' H' d2 v → Q v H') (r : Rel g μ S H) : ∃ k, o = some k ∧ Q (.bl k) H := by
  obtain ⟨z, ez, q⟩ := p.ok? r
  obtain ⟨k, ek, rfl⟩ := Option.map_eq_some_iff.mp ez
  exact ⟨k, ek, q _ rfl⟩
theorem two_ints {d d' : D} {f : Int → Int → Bool} {k : Bool} (e : (match d, d' with | .int i, .int j => some (f i j) | _, _ => none) = some k) : ∃ i j, d = .int i ∧ d' = .int j ∧ k = f i j := by
  cases d <;> cases d' <;> first | exact ⟨_, _, rfl, rfl, (Option.some.inj e).symm⟩ | cases e
theorem two_lt {d d' : D} {k : Bool} (e : (match d, d' with | .int i, .int j => some (decide (i < j)) | .str a, .str b => some (ltStr a b) | _, _ => none) = some k) :
    (∃ i j, d = .int i ∧ d' = .int j ∧ k = decide (i < j)) ∨ ∃ a b, d = .str a ∧ d' = .str b ∧ k = ltStr a b := by
  cases d <;> cases d' <;> first | exact .inl ⟨_, _, rfl, rfl, (Option.some.inj e).symm⟩ | exact .inr ⟨_, _, rfl, rfl, (Option.some.inj e).symm⟩ | cases e
theorem two_is {d d' : D} {k f : Bool} (e : (match d' with | .non => some f | _ => none) = some k) : d' = .non ∧ k = f := by
  cases d' <;> first | exact ⟨rfl, (Option.some.inj e).symm⟩ | cases e
theorem op_ord {op : CmpOp} {f : Int → Int → Bool} (hr : OpR X (compareOp op) (rI0 fun i j => .bl (f i j))) {pins : List (Addr × Obj)} {s : Shared} {σ : L2.St} {H : Hp} {x y : V} {v u : Value} {Q : VK} {μ : List Addr} {d d' : D} {k : Bool} (I : Inv X pins σ H s) (rx : RelV x v) (ry : RelV y u)
    (hx : Rep X.K μ H d x) (hy : Rep X.K μ H d' y) (e : ∃ i j, d = .int i ∧ d' = .int j ∧ k = f i j) (q : Q (.bl k) H) : wpAny (model X.prog X.w) X.A (compareOp op v u) (EP X pins σ Q) X.xe s := by
  obtain ⟨i, j, rfl, rfl, rfl⟩ := e
  obtain rfl : x = .int i := hx
  obtain rfl : y = .int j := hy
  exact hr pins s σ H _ _ v u Q I rx ry ⟨i, j, rfl, rfl, q⟩
theorem non_iff {μ : List Addr} {H : Hp} {d : D} {x : V} (hx : Rep X.K μ H d x) : x = .non ↔ d = .non := by
  constructor
  · intro e
    subst e
    cases d with
    | non => rfl
    | bl b => cases hx
    | int b => cases hx
    | str b => cases hx
    | tup b => obtain ⟨_, _, z, _⟩ := hx; cases z
    | rol b => obtain ⟨_, _, z, _⟩ := hx; cases z
    | loc b => obtain ⟨_, _, z⟩ := hx; cases z
  · intro e
    subst e
    exact hx
theorem op_cmp (hu : X.A.units + 100 < cLine) {op : CmpOp} : OpR X (compareOp op) (r2 (gX X ca) E fun a b S => ok? ((cmpD op a b S).map .bl) S) := by
  intro pins s σ H x y v u Q I rx ry h
  have h0 := h
  obtain ⟨μ, S, d, d', r, hx, hy, p⟩ := h
  obtain ⟨k, ek, q⟩ := ok_bl p r
  clear p
  cases op with
  | Eq => exact op_cmpEq hu pins s σ H x y v u Q I rx ry h0
  | NotEq => exact op_cmpNe hu pins s σ H x y v u Q I rx ry h0
  | In => exact in_any (neg := false) hu I rx ry r hx hy ek q
  | NotIn =>
    obtain ⟨k', ek', rfl⟩ := Option.map_eq_some_iff.mp (show (inD d d' S).map not = some k from ek)
    exact in_any (neg := true) hu I rx ry r hx hy ek' q
  | Lt =>
    rcases two_lt ek with e | ⟨a, b, rfl, rfl, rfl⟩
    · exact op_ord (f := fun i j => decide (i < j)) op_lt I rx ry hx hy e q
    · obtain rfl : x = .str a := hx
      obtain rfl : y = .str b := hy
      exact op_of (k := fun _ _ _ => .bad) op_lt_str I rx ry ⟨a, b, rfl, rfl, q⟩
  | LtE => exact op_ord (f := fun i j => decide (i ≤ j)) op_le I rx ry hx hy (two_ints ek) q
  | Gt => exact op_ord (f := fun i j => decide (j < i)) op_gt I rx ry hx hy (two_ints ek) q
  | GtE => exact op_ord (f := fun i j => decide (j ≤ i)) op_ge I rx ry hx hy (two_ints ek) q
  | Is =>
    obtain ⟨rfl, rfl⟩ := two_is (d := d) ek
    obtain rfl : y = .non := hy
    refine op_of (k := fun _ _ _ => .bad) op_isN I rx ry ⟨rfl, ?_⟩
    rw [show decide (x = V.non) = decide (d = D.non) from decide_eq_decide.mpr (non_iff hx)]
    exact q
  | IsNot =>
    obtain ⟨rfl, rfl⟩ := two_is (d := d) ek
    obtain rfl : y = .non := hy
    refine op_of (k := fun _ _ _ => .bad) op_notN I rx ry ⟨rfl, ?_⟩
    rw [show decide (x = V.non) = decide (d = D.non) from decide_eq_decide.mpr (non_iff hx)]
    exact q

/-! ### subscripts -/
theorem ix_dict (hu : X.A.units + 100 < cLine) : IxR X (fun x y H Q => ∃ a v, x = .ref a ∧ DGet H a y (some v) ∧ Q v H) := by
  intro value slice pins s σ H x y v u Q I rx ry h hs
  obtain ⟨a, w, rfl, gt, q⟩ := h
  cases rx
  have T := dict_typeIs I gt
  have last : wpAny (model X.prog X.w) X.A (subscripted slice false (.ref a) u) (fun r s3 => wpAny (model X.prog X.w) X.A (letTemporaryGo value (.ref a) r >>= fun _ => pure r) (EP X pins σ Q) X.xe s3) X.xe s := by
    rw [hs]
    exact wpAny_operating (d_getItem (by omega) I gt ry fun w' s3 I3 rw' => wpAny_bind (wpAny_letTemporaryGo (wpAny_pure ⟨w, H, I3, rw', q⟩)))
  unfold subscriptTail
  refine wpAny_bind ?_; rw [getitemInPython_of_ne T.not_modules]
  refine wpAny_bind (wpAny_specialOf T PySem.F.slot_dict_getitem.lookup ?_)
  first
    | exact wpAny_pure (wpAny_bind last)
    | exact wpAny_bind (wpAny_pure (wpAny_bind last))
    | exact wpAny_bind last
theorem atI_rep {K : PySem.W.Frag} {μ : List Addr} {H : Hp} {ds : List D} {vs : List V} {i : Int} {d : D} (h : Reps K μ H ds vs) (e : ixAt ds i = some d) : ∃ v, atI vs i = some v ∧ Rep K μ H d v := by
  have e : (ixN ds.length i).bind (fun j => ds[j]?) = some d := e
  obtain ⟨j, e1, e2⟩ := Option.bind_eq_some_iff.mp e
  obtain ⟨v, h1, h2⟩ := h.get e2
  refine ⟨v, ?_, h2⟩
  show (ixN vs.length i).bind (fun j => vs[j]?) = some v
  rw [← h.length, e1]
  exact h1
theorem ix_all (hu : X.A.units + 100 < cLine) : IxR X (r2 (gX X ca) E fun a b S => ok? (ixD a b S) S) := by
  intro value slice pins s σ H x y v u Q I rx ry h hs
  obtain ⟨μ, S, d, d', r, hx, hy, p⟩ := h
  obtain ⟨z, ez, q⟩ := p.ok? r
  clear p
  unfold ixD at ez
  split at ez
  · rename_i xs i
    obtain ⟨a, vs, rfl, h1, h2⟩ := hx
    obtain rfl : y = .int i := hy
    obtain ⟨w, e1, e2⟩ := atI_rep h2 ez
    exact ix_tup value slice pins s σ H _ _ v u Q I rx ry ⟨a, vs, i, w, rfl, rfl, h1.sq, e1, q _ e2⟩ hs
  · rename_i xs i
    obtain ⟨a, vs, rfl, h1, h2⟩ := hx
    obtain rfl : y = .int i := hy
    obtain ⟨w, e1, e2⟩ := atI_rep h2 ez
    exact ix_list value slice pins s σ H _ _ v u Q I rx ry ⟨a, vs, i, w, rfl, rfl, h1.sq, e1, q _ e2⟩ hs
  · rename_i t i
    obtain rfl : x = .str t := hx
    obtain rfl : y = .int i := hy
    split at ez
    · rename_i c
      obtain ⟨w, e1, rfl⟩ := Option.map_eq_some_iff.mp ez
      exact ix_str value slice pins s σ H _ _ v u Q I rx ry ⟨t, i, w, rfl, rfl, c, e1, q _ rfl⟩ hs
    · cases ez
  · rename_i n
    split at ez
    · rename_i xs i hs'
      obtain ⟨a, vs, _, rfl, h1, h2⟩ := r.lstAt hx hs'
      obtain rfl : y = .int i := hy
      obtain ⟨w, e1, e2⟩ := atI_rep h2 ez
      exact ix_list value slice pins s σ H _ _ v u Q I rx ry ⟨a, vs, i, w, rfl, rfl, .of h1, e1, q _ e2⟩ hs
    · rename_i lk kvs hs'
      obtain ⟨kk, ek, el⟩ := Option.bind_eq_some_iff.mp ez
      obtain ⟨b, hb, rfl⟩ := hx
      obtain ⟨kvs', h1, h2, h3⟩ := r.at_ n b _ hb hs'
      have lr := look_rep (k := kk) h2 h3
      rw [el] at lr
      cases ev : valV kvs' kk with
      | none => rw [ev] at lr; exact lr.elim
      | some w =>
        rw [ev] at lr
        refine ix_dict hu value slice pins s σ H _ _ v u Q I rx ry ⟨b, w, rfl, .inl ⟨kvs', kk, ?_, key_rep ek hy, ev.symm⟩, q _ lr⟩ hs
        cases lk with
        | true => exact .inr h1
        | false => exact .inl h1
    · rename_i kvs ks hs'
      obtain ⟨kk, ek, el⟩ := Option.bind_eq_some_iff.mp ez
      obtain ⟨b, hb, rfl⟩ := hx
      exact (r.at_ n b _ hb hs').1.elim
    · cases ez
  · cases ez

/-! ### slices -/
def rSl (g : G) (E : XK) (k : D → Option Int → Option Int → Store → Out D) : V → Option Int → Option Int → Hp → VK → Prop := fun x lo hi H Q => ∃ μ S d, Rel g μ S H ∧ Rep g.K μ H d x ∧ Post g E (k d lo hi S) μ H fun d2 _ μ' H' => ∀ v, Rep g.K μ' H' d2 v → Q v H'
theorem cut_rep {K : PySem.W.Frag} {μ : List Addr} {H : Hp} {ds : List D} {vs : List V} (lo hi : Option Int) (h : Reps K μ H ds vs) : Reps K μ H (cutL ds lo hi) (cutV vs lo hi) := by
  unfold cutL cutV
  rw [h.length]
  exact (h.drop _).take _
theorem cut_all {α : Type} {xs : List α} {lo hi : Option Int} (h : HT.sIx xs.length 0 lo = 0 ∧ HT.sIx xs.length xs.length hi = xs.length) : cutL xs lo hi = xs := by
  unfold cutL
  rw [h.1, h.2]
  simp
end
end Iv

set_option maxRecDepth 10000
/-! Iv7: slices; built-in functions. -/
namespace Iv
open PySem PySem.Spec PyProof.Rows L2
section
variable {X : Cx} {ca : Nat → Addr} {E : XK} {F : Fns}
theorem sl_all : SlR X (rSl (gX X ca) E slD) := by
  intro pins s σ H x v vl vu lo hi sl Q I rx hs pl pu h
  obtain ⟨μ, S, d, r, hx, p⟩ := h
  cases d with
  | tup xs =>
    obtain ⟨a, vs, rfl, h1, h2⟩ := hx
    have p : Post _ E (.ok (D.tup (cutL xs lo hi)) S) μ H _ := p
    have c2 := cut_rep lo hi h2
    cases rx
    obtain ⟨its, rv, ht, hz⟩ := I.tuple h1.sq
    have hlen : its.toArray.size = vs.length := by rw [List.size_toArray]; exact rv.length.symm
    refine ⟨"tuple", _, PyProof.Rows.slot_tuple_getitem.lookup, ht.typeIs, ?_⟩
    by_cases c : HT.sIx vs.length 0 lo = 0 ∧ HT.sIx vs.length vs.length hi = vs.length
    · refine getItem_tuple_whole ht hs pl pu (by rw [hlen]; exact c) ⟨.ref a, H, I, rfl, p.okI r _ ⟨a, vs, rfl, h1, ?_⟩⟩
      rw [cut_all (by rw [h2.length]; exact c)]
      exact h2
    · refine HT.getItem_tuple_cut ht hs pl pu (by rw [hlen]; exact c) ?_ (by rw [hlen]; exact hz)
      rw [hlen]
      obtain ⟨hh, gs, dd, tk, os⟩ := s
      exact EP.tup I ((rv.drop (HT.sIx vs.length 0 lo)).take (HT.sIx vs.length vs.length hi - HT.sIx vs.length 0 lo)) (Nat.le_trans (cutV_length vs lo hi) hz) p r c2
  | rol xs =>
    obtain ⟨a, vs, rfl, h1, h2⟩ := hx
    exact sl_list pins s σ H _ v vl vu lo hi sl Q I rx hs pl pu ⟨a, vs, rfl, h1.sq, fun t ht => Post.lst (show Post _ E (newC (.lst (cutL xs lo hi)) S) μ H _ from p) r (cut_rep lo hi h2) ht⟩
  | str z =>
    obtain rfl : x = .str z := hx
    have p : Post _ E (if z.length ≤ sizeLine then .ok (D.str ⟨(cutL z.cps.toList lo hi).toArray⟩) S else .bad) μ H _ := p
    by_cases c : z.length ≤ sizeLine
    · rw [if_pos c] at p
      exact sl_str pins s σ H _ v vl vu lo hi sl Q I rx hs pl pu ⟨z, rfl, c, p.okI r _ rfl⟩
    · rw [if_neg c] at p
      exact p.elim
  | loc n =>
    have p : Post _ E (match Iv.lstAt S n with | some xs => newC (.lst (cutL xs lo hi)) S | none => .bad) μ H _ := p
    split at p
    · rename_i xs hs'
      obtain ⟨a, vs, rfl, h1, h2⟩ := r.seqOf hx hs'
      rcases h1 with h1 | h1
      · exact sl_list pins s σ H _ v vl vu lo hi sl Q I rx hs pl pu ⟨a, vs, rfl, h1, fun t ht => Post.lst p r (cut_rep lo hi h2) ht⟩
      · obtain ⟨xs', hx'⟩ : ∃ xs', S[n]? = some (.lst xs') := by
          unfold Iv.lstAt at hs'
          split at hs'
          · exact ⟨_, by assumption⟩
          · cases hs'
        obtain ⟨a', vs', _, e, h3, _⟩ := r.lstAt hx hx'
        cases e
        obtain ⟨_, _, ⟨o1, g1, c1, _, _⟩, _⟩ := I.tuple h1
        obtain ⟨_, _, ⟨o2, _, g2, c2, _⟩, _⟩ := I.list (SqL.of h3)
        rw [g1] at g2
        cases g2
        rw [c1] at c2
        exact absurd c2 (by simp)
    · exact p.elim
  | non => exact p.elim
  | bl _ => exact p.elim
  | int _ => exact p.elim

/-! ### built-in functions -/
theorem ints_rep {K : PySem.W.Frag} {μ : List Addr} {H : Hp} : ∀ {ds : List D} {ns : List Int} {vs : List V}, ints? ds = some ns → Reps K μ H ds vs → vs = ns.map V.int
  | [], ns, vs, e, h => by cases e; exact h
  | .int x :: ds, ns, vs, e, h => by
    obtain ⟨v, r, rfl, h1, h2⟩ := h
    obtain ⟨ms, e1, rfl⟩ := Option.map_eq_some_iff.mp (show (ints? ds).map (x :: ·) = some ns from e)
    rw [ints_rep e1 h2, show v = V.int x from h1]
    rfl
  | .non :: _, _, _, e, _ | .bl _ :: _, _, _, e, _ | .str _ :: _, _, _, e, _ | .tup _ :: _, _, _, e, _ | .rol _ :: _, _, _, e, _ | .loc _ :: _, _, _, e, _ => by cases e
theorem strs_rep {K : PySem.W.Frag} {μ : List Addr} {H : Hp} : ∀ {ds : List D} {ns : List Str} {vs : List V}, strs? ds = some ns → Reps K μ H ds vs → vs = ns.map V.str
  | [], ns, vs, e, h => by cases e; exact h
  | .str x :: ds, ns, vs, e, h => by
    obtain ⟨v, r, rfl, h1, h2⟩ := h
    obtain ⟨ms, e1, rfl⟩ := Option.map_eq_some_iff.mp (show (strs? ds).map (x :: ·) = some ns from e)
    rw [strs_rep e1 h2, show v = V.str x from h1]
    rfl
  | .non :: _, _, _, e, _ | .bl _ :: _, _, _, e, _ | .int _ :: _, _, _, e, _ | .tup _ :: _, _, _, e, _ | .rol _ :: _, _, _, e, _ | .loc _ :: _, _, _, e, _ => by cases e
theorem bls_rep {K : PySem.W.Frag} {μ : List Addr} {H : Hp} : ∀ {ds : List D} {ns : List Bool} {vs : List V}, bls? ds = some ns → Reps K μ H ds vs → vs = ns.map V.bl
  | [], ns, vs, e, h => by cases e; exact h
  | .bl x :: ds, ns, vs, e, h => by
    obtain ⟨v, r, rfl, h1, h2⟩ := h
    obtain ⟨ms, e1, rfl⟩ := Option.map_eq_some_iff.mp (show (bls? ds).map (x :: ·) = some ns from e)
    rw [bls_rep e1 h2, show v = V.bl x from h1]
    rfl
  | .non :: _, _, _, e, _ | .str _ :: _, _, _, e, _ | .int _ :: _, _, _, e, _ | .tup _ :: _, _, _, e, _ | .rol _ :: _, _, _, e, _ | .loc _ :: _, _, _, e, _ => by cases e
theorem args1 {K : PySem.W.Frag} {μ : List Addr} {H : Hp} {d : D} {vs : List V} (h : Reps K μ H [d] vs) : ∃ v, vs = [v] ∧ Rep K μ H d v := by
  obtain ⟨v, r, rfl, h1, h2⟩ := h
  obtain rfl : r = [] := h2
  exact ⟨v, rfl, h1⟩
theorem args2 {K : PySem.W.Frag} {μ : List Addr} {H : Hp} {d d' : D} {vs : List V} (h : Reps K μ H [d, d'] vs) : ∃ v v', vs = [v, v'] ∧ Rep K μ H d v ∧ Rep K μ H d' v' := by
  obtain ⟨v, r, rfl, h1, h2⟩ := h
  obtain ⟨v', rfl, h3⟩ := args1 h2
  exact ⟨v, v', rfl, h1, h3⟩
/-- a built-in function's call, by values -/
abbrev Calls1 (X : Cx) (f : Value) (r : List V → Hp → VK → Prop) : Prop := CallR X f r
theorem call_of {f : Value} {r : List V → Hp → VK → Prop} {pins : List (Addr × Obj)} {s : Shared} {σ : L2.St} {H : Hp} {xs : List V} {us : List Value} {Q : VK} (h : CallR X f r) (I : Inv X pins σ H s) (rx : Vals xs us) (q : r xs H Q) :
    wpAny (model X.prog X.w) X.A (call f us) (EP X pins σ Q) X.xe s := h pins s σ H xs us Q I rx q
theorem b_len : CallR X (.builtin "len") (rN (gX X ca) E (bfD .len)) := by
  intro pins s σ H xs us Q I rx h
  obtain ⟨μ, S, ds, r, hx, p⟩ := h
  match ds, p with
  | [], p => exact p.elim
  | _ :: _ :: _, p => exact p.elim
  | [d], p =>
    obtain ⟨x, rfl, hx1⟩ := args1 hx
    clear hx
    obtain ⟨z, ez, q0⟩ := Post.ok? (show Post _ E (ok? ((lenD S d).map fun n : Nat => D.int n) S) μ H _ from p) r
    obtain ⟨n, en, rfl⟩ := Option.map_eq_some_iff.mp ez
    have q := q0 _ rfl
    clear p ez q0
    have hx := hx1
    clear hx1
    cases d with
    | str z =>
      obtain rfl : x = .str z := hx
      have en : (if z.length ≤ sizeLine then some z.length else none) = some n := en
      by_cases c : z.length ≤ sizeLine
      · rw [if_pos c] at en
        cases en
        exact call_of call_len_str I rx ⟨z, rfl, c, q⟩
      · rw [if_neg c] at en
        cases en
    | tup ys =>
      obtain ⟨a, vs, rfl, h1, h2⟩ := hx
      cases en
      refine call_of call_len_seq I rx ⟨a, vs, rfl, .inr h1.sq, ?_⟩
      rw [← h2.length]
      exact q
    | rol ys =>
      obtain ⟨a, vs, rfl, h1, h2⟩ := hx
      cases en
      refine call_of call_len_seq I rx ⟨a, vs, rfl, .inl h1.sq, ?_⟩
      rw [← h2.length]
      exact q
    | loc m =>
      simp only [lenD] at en
      split at en
      · rename_i ys hs
        cases en
        obtain ⟨a, vs, _, rfl, h1, h2⟩ := r.lstAt hx hs
        refine call_of call_len_seq I rx ⟨a, vs, rfl, .inl (.of h1), ?_⟩
        rw [← h2.length]
        exact q
      · rename_i lk kvs hs
        cases en
        obtain ⟨b, hb, rfl⟩ := hx
        obtain ⟨kvs', h1, h2, h3⟩ := r.at_ m b _ hb hs
        have hl : kvs.length = kvs'.length := by simpa using congrArg List.length h2
        have rd : Rd H b (.dK kvs') := by
          cases lk with
          | true => exact .inr h1
          | false => exact .inl h1
        obtain ⟨u, rfl, ru⟩ := vals1 rx
        cases ru
        exact d_len I rd fun t s' I' => ⟨.int kvs.length, H, I', ⟨t, by rw [hl]⟩, q⟩
      · rename_i ks hs
        cases en
        obtain ⟨b, hb, rfl⟩ := hx
        obtain ⟨h1, h2⟩ := r.at_ m b _ hb hs
        obtain ⟨o, es, ep, tb, g1, g2, g3, _, _, g6, g7, g8⟩ := setK_get I h1
        obtain ⟨u, rfl, ru⟩ := vals1 rx
        cases ru
        refine call_len_set g1 g2 g3 g7 (by have : scanBound = 4096 := rfl; omega) ⟨.int (ks.length : Nat), H, I.tok _, ⟨_, by rw [g8]⟩, q⟩
      · cases en
    | _ => cases en
theorem b_max2 (hc : X.calm = true) : CallR X (.builtin "max") (rN (gX X ca) E (bfD .max2)) := by
  intro pins s σ H xs us Q I rx h
  obtain ⟨μ, S, ds, r, hx, p⟩ := h
  match ds, p with
  | [.int i, .int j], p =>
    obtain ⟨x, y, rfl, h1, h2⟩ := args2 hx
    obtain rfl : x = .int i := h1
    obtain rfl : y = .int j := h2
    exact call_of (call_max2 hc) I rx ⟨i, j, rfl, Post.okI (show Post _ E (.ok (D.int (if j > i then j else i)) S) μ H _ from p) r _ rfl⟩
theorem b_min2 (hc : X.calm = true) : CallR X (.builtin "min") (rN (gX X ca) E (bfD .min2)) := by
  intro pins s σ H xs us Q I rx h
  obtain ⟨μ, S, ds, r, hx, p⟩ := h
  match ds, p with
  | [.int i, .int j], p =>
    obtain ⟨x, y, rfl, h1, h2⟩ := args2 hx
    obtain rfl : x = .int i := h1
    obtain rfl : y = .int j := h2
    exact call_of (call_min2 hc) I rx ⟨i, j, rfl, Post.okI (show Post _ E (.ok (D.int (if j < i then j else i)) S) μ H _ from p) r _ rfl⟩
theorem b_abs : CallR X (.builtin "abs") (rN (gX X ca) E (bfD .abs)) := by
  intro pins s σ H xs us Q I rx h
  obtain ⟨μ, S, ds, r, hx, p⟩ := h
  match ds, p with
  | [.int i], p =>
    obtain ⟨x, rfl, h1⟩ := args1 hx
    obtain rfl : x = .int i := h1
    exact call_of call_abs I rx ⟨i, rfl, Post.okI (show Post _ E (.ok (D.int (if i < 0 then -i else i)) S) μ H _ from p) r _ rfl⟩
theorem b_int : CallR X (.type "int") (rN (gX X ca) E (bfD .int)) := by
  intro pins s σ H xs us Q I rx h
  obtain ⟨μ, S, ds, r, hx, p⟩ := h
  match ds, p with
  | [.int i], p =>
    obtain ⟨x, rfl, h1⟩ := args1 hx
    obtain rfl : x = .int i := h1
    exact call_of call_int1 I rx (.inl ⟨i, rfl, Post.okI (show Post _ E (.ok (D.int i) S) μ H _ from p) r _ rfl⟩)
  | [.bl k], p =>
    obtain ⟨x, rfl, h1⟩ := args1 hx
    obtain rfl : x = .bl k := h1
    exact call_of call_int1 I rx (.inr ⟨k, rfl, Post.okI (show Post _ E (.ok (D.int (if k then 1 else 0)) S) μ H _ from p) r _ rfl⟩)
theorem bf_bad {α : Type} {g : G} {μ : List Addr} {H : Hp} {R : α → Store → List Addr → Hp → Prop} (p : Post g E (.bad : Out α) μ H R) : False := p
/-- the list that a built-in function walks -/
theorem seq_list {o : Option (List D)} {K : PySem.W.Frag} {μ : List Addr} {H : Hp} {S : Store} {d : D} {x : V} {w : World} {P : Program} {pins : List (Addr × Obj)} {s : Shared} {σ : L2.St} (I : Inv X pins σ H s) (r : Rel (gX X ca) μ S H) (h : Rep X.K μ H d x) {xs : List D} (e : seqOf S d = some xs) (nt : ∀ ys, d ≠ .tup ys) :
    ∃ a vs, x = .ref a ∧ SqL X.K H a vs ∧ Reps X.K μ H xs vs := by
  obtain ⟨a, vs, rfl, h1, h2⟩ := r.seqOf h e
  rcases h1 with h1 | h1
  · exact ⟨a, vs, rfl, h1, h2⟩
  · cases d with
    | tup ys => exact absurd rfl (nt ys)
    | rol ys =>
      obtain ⟨a', vs', e', h3, h4⟩ := h
      cases e'
      cases e
      exact ⟨a, vs', rfl, h3.sq, h4⟩
    | loc n =>
      have e : Iv.lstAt S n = some xs := e
      unfold Iv.lstAt at e
      split at e
      · rename_i zs hs
        cases e
        obtain ⟨a', vs', _, e', h3, h4⟩ := r.lstAt h hs
        cases e'
        exact ⟨a, vs', rfl, .of h3, h4⟩
      · cases e
    | non => cases e
    | bl _ => cases e
    | int _ => cases e
    | str _ => cases e
theorem list_list {μ : List Addr} {H : Hp} {S : Store} {d : D} {x : V} {pins : List (Addr × Obj)} {s : Shared} {σ : L2.St} (I : Inv X pins σ H s) (r : Rel (gX X ca) μ S H) (h : Rep X.K μ H d x) {xs : List D} (e : listOf S d = some xs) :
    ∃ a vs, x = .ref a ∧ SqL X.K H a vs ∧ Reps X.K μ H xs vs := by
  have nt : ∀ ys, d ≠ .tup ys := fun ys z => by subst z; cases e
  have e' : seqOf S d = some xs := by
    cases d <;> first | exact e | cases e
  exact seq_list (o := none) (K := X.K) (w := X.w) (P := X.prog) I r h e' nt
theorem b_sum (hc : X.calm = true) : CallR X (.builtin "sum") (rN (gX X ca) E (bfD .sum)) := by
  intro pins s σ H xs us Q I rx h
  obtain ⟨μ, S, ds, r, hx, p⟩ := h
  match ds, p with
  | [], p => exact p.elim
  | _ :: _ :: _, p => exact p.elim
  | [d], p =>
    obtain ⟨x, rfl, h1⟩ := args1 hx
    obtain ⟨z, ez, q⟩ := Post.ok? (show Post _ E (ok? (((listOf S d).bind ints?).map fun l => D.int l.sum) S) μ H _ from p) r
    obtain ⟨l, el, rfl⟩ := Option.map_eq_some_iff.mp ez
    obtain ⟨ys, ey, el⟩ := Option.bind_eq_some_iff.mp el
    obtain ⟨a, vs, rfl, h2, h3⟩ := list_list I r h1 ey
    rw [ints_rep el h3] at h2
    exact call_of (cr_sum hc) I rx ⟨a, l, rfl, h2, q _ rfl⟩
theorem b_all (hc : X.calm = true) : CallR X (.builtin "all") (rN (gX X ca) E (bfD .all)) := by
  intro pins s σ H xs us Q I rx h
  obtain ⟨μ, S, ds, r, hx, p⟩ := h
  match ds, p with
  | [], p => exact p.elim
  | _ :: _ :: _, p => exact p.elim
  | [d], p =>
    obtain ⟨x, rfl, h1⟩ := args1 hx
    obtain ⟨z, ez, q⟩ := Post.ok? (show Post _ E (ok? (((listOf S d).bind bls?).map fun l => D.bl (l.all id)) S) μ H _ from p) r
    obtain ⟨l, el, rfl⟩ := Option.map_eq_some_iff.mp ez
    obtain ⟨ys, ey, el⟩ := Option.bind_eq_some_iff.mp el
    obtain ⟨a, vs, rfl, h2, h3⟩ := list_list I r h1 ey
    rw [bls_rep el h3] at h2
    exact call_of (cr_all hc) I rx ⟨a, l, rfl, h2, q _ rfl⟩
theorem b_any (hc : X.calm = true) : CallR X (.builtin "any") (rN (gX X ca) E (bfD .any)) := by
  intro pins s σ H xs us Q I rx h
  obtain ⟨μ, S, ds, r, hx, p⟩ := h
  match ds, p with
  | [], p => exact p.elim
  | _ :: _ :: _, p => exact p.elim
  | [d], p =>
    obtain ⟨x, rfl, h1⟩ := args1 hx
    obtain ⟨z, ez, q⟩ := Post.ok? (show Post _ E (ok? (((listOf S d).bind bls?).map fun l => D.bl (l.any id)) S) μ H _ from p) r
    obtain ⟨l, el, rfl⟩ := Option.map_eq_some_iff.mp ez
    obtain ⟨ys, ey, el⟩ := Option.bind_eq_some_iff.mp el
    obtain ⟨a, vs, rfl, h2, h3⟩ := list_list I r h1 ey
    rw [bls_rep el h3] at h2
    exact call_of (cr_any hc) I rx ⟨a, l, rfl, h2, q _ rfl⟩
theorem b_tuple : CallR X (.type "tuple") (rN (gX X ca) E (bfD .tuple)) := by
  intro pins s σ H xs us Q I rx h
  obtain ⟨μ, S, ds, r, hx, p⟩ := h
  match ds, p with
  | [], p => exact p.elim
  | _ :: _ :: _, p => exact p.elim
  | [d], p =>
    obtain ⟨x, rfl, h1⟩ := args1 hx
    have p : Post (gX X ca) E (ok? ((seqOf S d).map D.tup) S) μ H _ := p
    by_cases nt : ∃ ys, d = .tup ys
    · obtain ⟨ys, rfl⟩ := nt
      obtain ⟨a, vs, rfl, h2, h3⟩ := h1
      exact call_of call_tuple_of I rx ⟨a, vs, rfl, .inr ⟨h2.sq, Post.okI (show Post _ E (.ok (D.tup ys) S) μ H _ from p) r _ ⟨a, vs, rfl, h2, h3⟩⟩⟩
    · have nt : ∀ ys, d ≠ .tup ys := fun ys e => nt ⟨ys, e⟩
      cases ez : seqOf S d with
      | none => rw [ez] at p; exact p.elim
      | some ys =>
        rw [ez] at p
        obtain ⟨a, vs, rfl, h2, h3⟩ := seq_list (o := none) (K := X.K) (w := X.w) (P := X.prog) I r h1 ez nt
        obtain ⟨its, rv, pl, hz⟩ := I.list h2
        obtain ⟨u, rfl, ru⟩ := vals1 rx
        cases ru
        have hlen := rv.length
        refine call_tuple_list pl.isList (fun h' kp => ?_) (by simp only [List.size_toArray]; omega)
        obtain ⟨hh, gs, dd, tk, os⟩ := s
        exact EP.tup (I.kept (t' := tk) kp) rv hz (show Post _ E (.ok (D.tup ys) S) μ H _ from p) r h3
theorem b_list : CallR X (.type "list") (rN (gX X ca) E (bfD .list)) := by
  intro pins s σ H xs us Q I rx h
  obtain ⟨μ, S, ds, r, hx, p⟩ := h
  match ds, p with
  | [], p => exact p.elim
  | _ :: _ :: _, p => exact p.elim
  | [d], p =>
    obtain ⟨x, rfl, h1⟩ := args1 hx
    have p : Post (gX X ca) E (match seqOf S d with | some xs => newC (.lst xs) S | none => .bad) μ H _ := p
    cases ez : seqOf S d with
    | none => rw [ez] at p; exact p.elim
    | some ys =>
      rw [ez] at p
      obtain ⟨a, vs, rfl, h2, h3⟩ := r.seqOf h1 ez
      exact call_of call_list_of I rx ⟨a, vs, rfl, h2, fun t ht => Post.lst p r h3 ht⟩
end
end Iv

set_option maxRecDepth 10000
/-! Iv8: sorted, min, max; methods. -/
namespace Iv
open PySem PySem.Spec PyProof.Rows L2
section
variable {X : Cx} {ca : Nat → Addr} {E : XK}
theorem zip_each {K : PySem.W.Frag} {μ : List Addr} {H : Hp} {R : V → D → PyData → Prop} : ∀ {xs : List D} {ds : List PyData} {vs : List V} {us : List Value}, xs.length = ds.length → Reps K μ H xs vs → Vals vs us →
    PySem.W.EachIs (fun v (b : D × PyData) => ∃ w, RelV w v ∧ Rep K μ H b.1 w) us (xs.zip ds)
  | [], [], vs, us, _, h, r => by
    obtain rfl : vs = [] := h
    cases r
    exact .nil
  | x :: xs, d :: ds, vs, us, e, h, r => by
    obtain ⟨w, q, rfl, h1, h2⟩ := h
    cases r with
    | cons r1 r2 => exact .cons ⟨w, r1, h1⟩ (zip_each (R := R) (by simpa using e) h2 r2)
  | [], _ :: _, _, _, e, _, _ => by simp at e
  | _ :: _, [], _, _, e, _, _ => by simp at e
theorem zip_reads {h : Heap} : ∀ {xs : List D} {ds : List PyData} {us : List Value} {as : List Addr}, xs.length = ds.length → ReadsAll h us ds as → PySem.W.EachIs (fun v (b : D × PyData) => ∃ as, Reads h v b.2 as) us (xs.zip ds)
  | [], [], _, _, _, r => by cases r; exact .nil
  | x :: xs, d :: ds, _, _, e, r => by
    cases r with
    | cons r1 r2 => exact .cons ⟨_, r1⟩ (zip_reads (by simpa using e) r2)
  | [], _ :: _, _, _, e, _ => by simp at e
  | _ :: _, [], _, _, e, _ => by simp at e
theorem each_out {K : PySem.W.Frag} {μ : List Addr} {H : Hp} : ∀ {us : List Value} {bs : List (D × PyData)}, PySem.W.EachIs (fun v (b : D × PyData) => ∃ w, RelV w v ∧ Rep K μ H b.1 w) us bs → ∃ vs, Vals vs us ∧ Reps K μ H (bs.map (·.1)) vs
  | _, _, .nil => ⟨[], .nil, rfl⟩
  | _, _, .cons ⟨w, r, h⟩ t => by
    obtain ⟨vs, h1, h2⟩ := each_out t
    exact ⟨w :: vs, .cons r h1, w, vs, rfl, h, h2⟩
theorem each_len {α β : Type} {R : α → β → Prop} : ∀ {as : List α} {bs : List β}, PySem.W.EachIs R as bs → as.length = bs.length
  | _, _, .nil => rfl
  | _, _, .cons _ t => congrArg (· + 1) (each_len t)
theorem map_zip_snd : ∀ {xs : List D} {ds : List PyData}, xs.length = ds.length → (xs.zip ds).map (·.2) = ds
  | [], [], _ => rfl
  | x :: xs, d :: ds, e => by
    rw [List.zip_cons_cons, List.map_cons, map_zip_snd (by simpa using e)]
  | [], _ :: _, e => by simp at e
  | _ :: _, [], e => by simp at e
theorem alikes_ok {ds : List PyData} (h : alikes ds = true) : PySem.W.AllAlike ds := fun d hd e he => List.all_eq_true.mp (List.all_eq_true.mp h d hd) e he
theorem sortable_ok {ds : List PyData} (h : sortable ds = true) : PySem.W.Sortable ds := by
  rcases Bool.or_eq_true_iff.mp h with h | h
  · refine .inl fun d hd => ?_
    have q := List.all_eq_true.mp h d hd
    cases d with
    | tuple xs =>
      cases xs with
      | nil => cases q
      | cons x r => exact ⟨x, r, rfl⟩
    | _ => cases q
  · refine .inr fun d hd => ?_
    have q := List.all_eq_true.mp h d hd
    cases d with
    | none => cases q
    | tuple xs => cases q
    | _ => exact ⟨(fun e => nomatch e), fun xs e => nomatch e⟩
theorem sort_list (hu : X.A.units + 100 < cLine) {pins : List (Addr × Obj)} {s : Shared} {σ : L2.St} {H : Hp} {Q : VK} {μ : List Addr} {S : Store} {xs ys : List D} {a : Addr} {vs : List V} (I : Inv X pins σ H s) (r : Rel (gX X ca) μ S H) (hs : SqL X.K H a vs) (hr : Reps X.K μ H xs vs)
    (e : sortD S xs = some ys) (q : ∀ p ws, H p = none → Reps X.K μ H ys ws → Q (.ref p) (upd H p (.lst ws))) : wpAny (model X.prog X.w) X.A (call (.builtin "sorted") [.ref a]) (EP X pins σ Q) X.xe s := by
  unfold sortD at e
  split at e
  · rename_i ds ed
    split at e
    · rename_i c
      cases e
      simp only [Bool.and_eq_true, decide_eq_true_eq] at c
      obtain ⟨⟨c1, c2⟩, c3⟩ := c
      have hl : xs.length = ds.length := (mapO_len ed).symm
      obtain ⟨its, rv, hp, hz⟩ := I.list hs
      obtain ⟨as, ra⟩ := Dp.readsAll I ds vs its (dps_of r 8 xs vs ds ed hr) rv
      have em := map_zip_snd hl
      refine PySem.W.sorted_data (enc := fun b : D × PyData => b.2) (bs := xs.zip ds) hp.isList (zip_each (R := fun _ _ _ => True) hl hr rv) (zip_reads hl ra) (by rw [em]; exact alikes_ok c1) (by rw [em]; exact sortable_ok c2)
        (by rw [List.length_zip]; omega) (fun b hb => ?_) fun out hlo ho => ?_
      · obtain ⟨x, _, ex⟩ := mapO_mem ed (show b.2 ∈ ds by rw [← em]; exact List.mem_map_of_mem hb)
        have := (plain_of 8 x b.2 ex).2.1
        show X.A.units + 2 + b.2.depth < cLine
        omega
      · obtain ⟨ws, h1, h2⟩ := each_out ho
        have hn : H (s.heap.objs.size + 1) = none := I.hok.fresh (Nat.le_succ _)
        obtain ⟨ep, hat⟩ := PyProof.Rows.sortedAll_at s.heap its out.toArray
        refine ⟨.ref (s.heap.objs.size + 1), upd H (s.heap.objs.size + 1) (.lst ws), I.laid (t' := s.toks) (fun b o q => PyProof.Rows.sortedAll_old q) (Nat.le_succ _) ?_, rfl, q _ ws hn h2⟩
        refine ⟨?_, out, ep, h1, hat⟩
        rw [h1.length, hlo, List.length_zip]
        omega
    · cases e
  · cases e
theorem strKeys_eq : ∀ {l : List Key} {ks : List Str}, strKeys l = some ks → l = ks.map Sum.inr
  | [], _, e => by cases e; rfl
  | .inr x :: r, ks, e => by
    obtain ⟨ms, e1, rfl⟩ := Option.map_eq_some_iff.mp (show (strKeys r).map (x :: ·) = some ks from e)
    rw [strKeys_eq e1]
    rfl
  | .inl _ :: _, _, e => by cases e
theorem str_ext {x y : Str} (h : x.cps.toList = y.cps.toList) : x = y := PySem.W.str_of_cps h
theorem leStr_trans (a b c : Str) (h1 : leStr a b = true) (h2 : leStr b c = true) : leStr a c = true := decide_eq_true (List.le_trans (of_decide_eq_true h1) (of_decide_eq_true h2))
theorem leStr_total (a b : Str) : (leStr a b || leStr b a) = true := by
  unfold leStr
  rcases List.le_total a.cps.toList b.cps.toList with h | h <;> simp [h]
theorem leStr_anti {a b : Str} (h1 : leStr a b = true) (h2 : leStr b a = true) : a = b := str_ext (List.le_antisymm (of_decide_eq_true h1) (of_decide_eq_true h2))
/-- two rows in order, of the same texts -/
theorem sorted_uniq {xs ys : List Str} (p : xs.Perm ys) (hx : xs.Pairwise fun a b => leStr a b = true) (hy : ys.Pairwise fun a b => leStr a b = true) : xs = ys :=
  p.eq_of_pairwise (fun a b _ _ h1 h2 => leStr_anti h1 h2) hx hy
theorem sortS_perm (xs : List Str) : (sortS xs).Perm xs := List.mergeSort_perm _ _
theorem sortS_sorted (xs : List Str) : (sortS xs).Pairwise fun a b => leStr a b = true := List.pairwise_mergeSort leStr_trans leStr_total xs
end
end Iv

set_option maxRecDepth 10000
/-! Iv9: methods of built-in types. -/
namespace Iv
open PySem PySem.Spec PyProof.Rows L2
section
variable {X : Cx} {ca : Nat → Addr} {E : XK} {F : Fns}
def Bm.name : Bm → Str
  | .append => "append" | .pop | .popAt => "pop" | .insert => "insert" | .index => "index" | .count => "count" | .add => "add" | .upper => "upper" | .lower => "lower"
  | .join => "join" | .split => "split" | .partition => "partition" | .get2 => "get" | .values => "values" | .items => "items"
/-- the method that is meant: its type, its own name -/
structure BmAt (X : Cx) (ca : Nat → Addr) (E : XK) (m : Bm) (d : D) (v : Value) (s : Shared) : Prop where
  ex : ∃ T id, PlainAttrs T ∧ Slot T m.name id ∧ typeOf (.builtin id) = pure (.type "method_descriptor") ∧ s.TypeIs v T ∧ (∀ a, v = .ref a → ∃ ob, s.heap.get? a = some ob ∧ ob.dict = none) ∧
    MtR X id fun x xs H Q => ∃ μ S ds, Rel (gX X ca) μ S H ∧ Rep X.K μ H d x ∧ Reps X.K μ H ds xs ∧ Post (gX X ca) E (bmD m d ds S) μ H fun d2 _ μ' H' => ∀ v, Rep X.K μ' H' d2 v → Q v H'
theorem lst_type {pins : List (Addr × Obj)} {σ : L2.St} {H : Hp} {s : Shared} {a : Addr} {vs : List V} (I : Inv X pins σ H s) (h : H a = some (.lst vs)) : s.TypeIs (.ref a) "list" ∧ ∀ b, Value.ref a = .ref b → ∃ ob, s.heap.get? b = some ob ∧ ob.dict = none := by
  obtain ⟨z, its, n, r, e⟩ := I.hok a _ h
  exact ⟨⟨_, e, rfl⟩, fun b q => by cases q; exact ⟨_, e, rfl⟩⟩
theorem tup_type {pins : List (Addr × Obj)} {σ : L2.St} {H : Hp} {s : Shared} {a : Addr} {vs : List V} (I : Inv X pins σ H s) (h : TupAt H a vs) : s.TypeIs (.ref a) "tuple" ∧ ∀ b, Value.ref a = .ref b → ∃ ob, s.heap.get? b = some ob ∧ ob.dict = none := by
  obtain ⟨o, ho, hd⟩ := h
  obtain ⟨e, z, its, r, o2, e2, c, _⟩ := I.hok a _ ho
  rw [e] at e2
  cases e2
  exact ⟨⟨o, e, c⟩, fun b q => by cases q; exact ⟨o, e, hd⟩⟩
theorem list_meth {m : Bm} {id : String} {n : Nat} {s : Shared} {H : Hp} {a : Addr} {vs : List V} {pins : List (Addr × Obj)} {σ : L2.St} (I : Inv X pins σ H s) (h : H a = some (.lst vs)) (slot : Slot "list" m.name id) (ty : typeOf (.builtin id) = pure (.type "method_descriptor"))
    (hm : MtR X id fun x xs H Q => ∃ μ S ds, Rel (gX X ca) μ S H ∧ Rep X.K μ H (.loc n) x ∧ Reps X.K μ H ds xs ∧ Post (gX X ca) E (bmD m (.loc n) ds S) μ H fun d2 _ μ' H' => ∀ v, Rep X.K μ' H' d2 v → Q v H') : BmAt X ca E m (.loc n) (.ref a) s :=
  ⟨"list", id, PySem.F.plainAttrs_list, slot, ty, (lst_type I h).1, (lst_type I h).2, hm⟩
/-- a list in its place, written -/
theorem Post.putL {g : G} {E : XK} {μ : List Addr} {H : Hp} {S : Store} {n : Nat} {a : Addr} {vs : List V} {d : D} {ds : List D} {us : List V} {Q : D → List Addr → Hp → Prop} (q : Post g E (.ok d (S.set n (.lst ds))) μ H fun d _ μ' H' => Q d μ' H') (r : Rel g μ S H) (ha : μ[n]? = some a) (h : H a = some (.lst vs)) (hr : Reps g.K μ H ds us) :
    Q d μ (upd H a (.lst us)) ∧ Ext g.K μ μ H (upd H a (.lst us)) := by
  have n1 : ∀ q u, H a ≠ some (.frz q u) := fun q xs e => by rw [h] at e; cases e
  have e : Ext g.K μ μ H (upd H a (.lst us)) := Ext.put (List.mem_of_getElem? ha) n1
  exact ⟨q μ _ e (r.put ha n1 ⟨us, upd_same, Reps.mono e hr⟩), e⟩
theorem Post.lstDo {g : G} {μ : List Addr} {H : Hp} {S : Store} {o : D} {x : V} {f : Nat → List D → Out D} {R : D → Store → List Addr → Hp → Prop} (p : Post g E (Iv.lstDo o S f) μ H R) (r : Rel g μ S H) (hx : Rep g.K μ H o x) :
    ∃ n xs a vs, o = .loc n ∧ S[n]? = some (.lst xs) ∧ μ[n]? = some a ∧ x = .ref a ∧ H a = some (.lst vs) ∧ Reps g.K μ H xs vs ∧ Post g E (f n xs) μ H R := by
  cases o with
  | loc n =>
    have p : Post g E (match S[n]? with | some (.lst xs) => f n xs | _ => .bad) μ H R := p
    split at p
    · rename_i xs hs
      obtain ⟨a, vs, ha, rfl, h1, h2⟩ := r.lstAt hx hs
      exact ⟨n, xs, a, vs, rfl, hs, ha, rfl, h1, h2, p⟩
    · exact p.elim
  | _ => exact p.elim
theorem m_append {d0 : D} : MtR X "list.append" fun x xs H Q => ∃ μ S ds, Rel (gX X ca) μ S H ∧ Rep X.K μ H d0 x ∧ Reps X.K μ H ds xs ∧ Post (gX X ca) E (bmD .append d0 ds S) μ H fun d2 _ μ' H' => ∀ v, Rep X.K μ' H' d2 v → Q v H' := by
  intro pins s σ H x xs v us Q I rx rxs h
  obtain ⟨μ, S, ds, r, hx, hxs, p⟩ := h
  match ds, p with
  | [], p => exact p.elim
  | _ :: _ :: _, p => exact p.elim
  | [d], p =>
    obtain ⟨y, rfl, hy⟩ := args1 hxs
    obtain ⟨n, ys, a, vs, rfl, hs, ha, rfl, h1, h2, p⟩ := Post.lstDo (show Post _ E (lstDo d0 S fun n xs => if xs.length < sizeLine then .ok .non (S.set n (.lst (xs ++ [d]))) else .bad) μ H _ from p) r hx
    split at p
    · rename_i c
      obtain ⟨q, e⟩ := Post.putL p r ha h1 (h2.app (Reps.one hy))
      exact mt_append pins s σ H _ _ v us Q I rx rxs ⟨a, vs, y, rfl, rfl, h1, by rw [← h2.length]; exact c, q _ rfl⟩
    · exact p.elim
theorem m_popAt {d0 : D} : MtR X "list.pop" fun x xs H Q => ∃ μ S ds, Rel (gX X ca) μ S H ∧ Rep X.K μ H d0 x ∧ Reps X.K μ H ds xs ∧ Post (gX X ca) E (bmD .popAt d0 ds S) μ H fun d2 _ μ' H' => ∀ v, Rep X.K μ' H' d2 v → Q v H' := by
  intro pins s σ H x xs v us Q I rx rxs h
  obtain ⟨μ, S, ds, r, hx, hxs, p⟩ := h
  match ds, p with
  | [.int i], p =>
    obtain ⟨y, rfl, hy⟩ := args1 hxs
    obtain rfl : y = .int i := hy
    obtain ⟨n, ys, a, vs, rfl, hs, ha, rfl, h1, h2, p⟩ := Post.lstDo (show Post _ E (lstDo d0 S fun n xs => _) μ H _ from p) r hx
    split at p <;> first | exact p.elim | skip
    rename_i j hj
    split at p <;> first | exact p.elim | skip
    rename_i d hd
    split at p
    · rename_i c
      obtain ⟨w, e1, e2⟩ := h2.get hd
      obtain ⟨q, e⟩ := Post.putL p r ha h1 (h2.erase j)
      exact mt_popAt pins s σ H _ _ v us Q I rx rxs ⟨a, vs, i, j, w, rfl, rfl, h1, by omega, by omega, by rw [← h2.length]; exact (ixN_seq hj).1, e1, q _ (e2.mono e)⟩
    · exact p.elim
theorem m_pop {d0 : D} : MtR X "list.pop" fun x xs H Q => ∃ μ S ds, Rel (gX X ca) μ S H ∧ Rep X.K μ H d0 x ∧ Reps X.K μ H ds xs ∧ Post (gX X ca) E (bmD .pop d0 ds S) μ H fun d2 _ μ' H' => ∀ v, Rep X.K μ' H' d2 v → Q v H' := by
  intro pins s σ H x xs v us Q I rx rxs h
  obtain ⟨μ, S, ds, r, hx, hxs, p⟩ := h
  match ds, p with
  | _ :: _, p => exact p.elim
  | [], p =>
    obtain rfl : xs = [] := hxs
    obtain ⟨n, ys, a, vs, rfl, hs, ha, rfl, h1, h2, p⟩ := Post.lstDo (show Post _ E (lstDo d0 S fun n xs => _) μ H _ from p) r hx
    split at p <;> first | exact p.elim | skip
    rename_i d hd
    rw [List.getLast?_eq_getElem?] at hd
    obtain ⟨w, e1, e2⟩ := h2.get hd
    obtain ⟨q, e⟩ := Post.putL p r ha h1 h2.dropLast
    exact mt_pop pins s σ H _ _ v us Q I rx rxs ⟨a, vs, w, rfl, rfl, h1, by rw [← h2.length]; exact e1, q _ (e2.mono e)⟩
theorem idx_ok : ∀ {l : List Str} {x : Str} {j : Nat}, idxOf x l = some j → l[j]? = some x ∧ ∀ m, m < j → l[m]? ≠ some x
  | [], _, _, e => by cases e
  | b :: r, x, j, e => by
    unfold idxOf at e
    by_cases c : b = x
    · rw [if_pos c] at e
      cases e
      exact ⟨by rw [c]; rfl, fun m h => absurd h (Nat.not_lt_zero m)⟩
    · rw [if_neg c] at e
      obtain ⟨i, ei, rfl⟩ := Option.map_eq_some_iff.mp e
      obtain ⟨h1, h2⟩ := idx_ok ei
      refine ⟨h1, fun m h => ?_⟩
      cases m with
      | zero => exact fun z => c (Option.some.inj z)
      | succ m => exact h2 m (by omega)
theorem eq_self (z : Str) : eqV (.str z) (.str z) = true := by
  simp [eqV]
theorem eq_ne {a b : Str} (h : a ≠ b) : eqV (.str a) (.str b) = false := by
  simp [eqV, h]
theorem m_indexL {d0 : D} (nt : ∀ ys, d0 ≠ .tup ys) : MtR X "list.index" fun x xs H Q => ∃ μ S ds, Rel (gX X ca) μ S H ∧ Rep X.K μ H d0 x ∧ Reps X.K μ H ds xs ∧ Post (gX X ca) E (bmD .index d0 ds S) μ H fun d2 _ μ' H' => ∀ v, Rep X.K μ' H' d2 v → Q v H' := by
  intro pins s σ H x xs v us Q I rx rxs h
  obtain ⟨μ, S, ds, r, hx, hxs, p⟩ := h
  match ds, p with
  | [.str z], p =>
    obtain ⟨y, rfl, hy⟩ := args1 hxs
    obtain rfl : y = .str z := hy
    have p : Post _ E (match seqOf S d0 with | some xs => (match strs? xs with | some l => ok? ((idxOf z l).map fun j : Nat => D.int j) S | none => .bad) | none => .bad) μ H _ := p
    split at p <;> first | exact p.elim | skip
    rename_i ys ey
    split at p <;> first | exact p.elim | skip
    rename_i l el
    obtain ⟨w, ew, q⟩ := p.ok? r
    obtain ⟨j, ej, rfl⟩ := Option.map_eq_some_iff.mp ew
    obtain ⟨a, vs, rfl, h2, h3⟩ := seq_list (o := none) (K := X.K) (w := X.w) (P := X.prog) I r hx ey nt
    rw [strs_rep el h3] at h2
    obtain ⟨i1, i2⟩ := idx_ok ej
    refine mt_index pins s σ H _ _ v us Q I rx rxs ⟨a, l.map V.str, .str z, j, .str z, rfl, rfl, h2, rfl, flat_strs l, by rw [List.getElem?_map, i1]; rfl, eq_self z, fun m z' hm e => ?_, q _ rfl⟩
    rw [List.getElem?_map] at e
    obtain ⟨w, ew, rfl⟩ := Option.map_eq_some_iff.mp e
    exact eq_ne fun c => i2 m hm (by rw [ew, c])
theorem m_indexT {zs : List D} : MtR X "tuple.index" fun x xs H Q => ∃ μ S ds, Rel (gX X ca) μ S H ∧ Rep X.K μ H (.tup zs) x ∧ Reps X.K μ H ds xs ∧ Post (gX X ca) E (bmD .index (.tup zs) ds S) μ H fun d2 _ μ' H' => ∀ v, Rep X.K μ' H' d2 v → Q v H' := by
  intro pins s σ H x xs v us Q I rx rxs h
  obtain ⟨μ, S, ds, r, hx, hxs, p⟩ := h
  match ds, p with
  | [.str z], p =>
    obtain ⟨y, rfl, hy⟩ := args1 hxs
    obtain rfl : y = .str z := hy
    have p : Post _ E (match strs? zs with | some l => ok? ((idxOf z l).map fun j : Nat => D.int j) S | none => .bad) μ H _ := p
    split at p <;> first | exact p.elim | skip
    rename_i l el
    obtain ⟨w, ew, q⟩ := p.ok? r
    obtain ⟨j, ej, rfl⟩ := Option.map_eq_some_iff.mp ew
    obtain ⟨a, vs, rfl, h2, h3⟩ := hx
    rw [strs_rep el h3] at h2
    obtain ⟨i1, i2⟩ := idx_ok ej
    exact mt_tup_index pins s σ H _ _ v us Q I rx rxs ⟨a, l, z, j, rfl, rfl, h2.sq, i1, i2, q _ rfl⟩
theorem m_upper {z : Str} : MtR X "str.upper" fun x xs H Q => ∃ μ S ds, Rel (gX X ca) μ S H ∧ Rep X.K μ H (.str z) x ∧ Reps X.K μ H ds xs ∧ Post (gX X ca) E (bmD .upper (.str z) ds S) μ H fun d2 _ μ' H' => ∀ v, Rep X.K μ' H' d2 v → Q v H' := by
  intro pins s σ H x xs v us Q I rx rxs h
  obtain ⟨μ, S, ds, r, hx, hxs, p⟩ := h
  match ds, p with
  | _ :: _, p => exact p.elim
  | [], p =>
    obtain rfl : xs = [] := hxs
    obtain rfl : x = .str z := hx
    have p : Post _ E (if z.length ≤ 5000000 then .ok (D.str (Txt.upper z)) S else .bad) μ H _ := p
    split at p
    · rename_i c
      exact mt_upper pins s σ H _ _ v us Q I rx rxs ⟨z, rfl, rfl, by omega, p.okI r _ rfl⟩
    · exact p.elim
theorem m_lower {z : Str} : MtR X "str.lower" fun x xs H Q => ∃ μ S ds, Rel (gX X ca) μ S H ∧ Rep X.K μ H (.str z) x ∧ Reps X.K μ H ds xs ∧ Post (gX X ca) E (bmD .lower (.str z) ds S) μ H fun d2 _ μ' H' => ∀ v, Rep X.K μ' H' d2 v → Q v H' := by
  intro pins s σ H x xs v us Q I rx rxs h
  obtain ⟨μ, S, ds, r, hx, hxs, p⟩ := h
  match ds, p with
  | _ :: _, p => exact p.elim
  | [], p =>
    obtain rfl : xs = [] := hxs
    obtain rfl : x = .str z := hx
    have p : Post _ E (if z.length ≤ 5000000 then .ok (D.str (Txt.lower z)) S else .bad) μ H _ := p
    split at p
    · rename_i c
      exact mt_lower pins s σ H _ _ v us Q I rx rxs ⟨z, rfl, rfl, by omega, p.okI r _ rfl⟩
    · exact p.elim
theorem hasK_app (j k : Key) (ks : List Key) : hasK j (ks ++ [k]) = (hasK j ks || decide (j = k)) := by
  unfold hasK
  rw [List.any_append]
  simp only [List.any_cons, List.any_nil, Bool.or_false]
  congr 1
  exact decide_eq_decide.mpr ⟨fun e => e.symm, fun e => e.symm⟩
theorem hasK_mem {k : Key} {ks : List Key} : hasK k ks = true ↔ k ∈ ks := by
  unfold hasK
  rw [List.any_eq_true]
  constructor
  · rintro ⟨x, hx, e⟩
    rw [← of_decide_eq_true e]
    exact hx
  · intro h
    exact ⟨k, h, decide_eq_true rfl⟩
theorem addK_S (k j : Key) (ks : List Key) : hasK j (addK k ks) = (hasK j ks || decide (j = k)) := by
  unfold addK
  by_cases c : hasK k ks = true
  · rw [if_pos c]
    by_cases e : j = k
    · subst e
      rw [c]
      rfl
    · rw [decide_eq_false e, Bool.or_false]
  · rw [if_neg c]
    exact hasK_app j k ks
theorem addK_len (k : Key) (ks : List Key) : (addK k ks).length = if hasK k ks = true then ks.length else ks.length + 1 := by
  unfold addK
  split <;> simp
theorem addK_nd {k : Key} {ks : List Key} (h : ks.Nodup) : (addK k ks).Nodup := by
  unfold addK
  split
  · exact h
  · rename_i c
    rw [List.nodup_append]
    refine ⟨h, by simp, fun a ha b hb => ?_⟩
    rw [List.mem_singleton.mp hb]
    rintro rfl
    exact c (hasK_mem.mpr ha)
theorem m_add {n : Nat} : MtR X "set.add" fun x xs H Q => ∃ μ S ds, Rel (gX X ca) μ S H ∧ Rep X.K μ H (.loc n) x ∧ Reps X.K μ H ds xs ∧ Post (gX X ca) E (bmD .add (.loc n) ds S) μ H fun d2 _ μ' H' => ∀ v, Rep X.K μ' H' d2 v → Q v H' := by
  intro pins s σ H x xs v us Q I rx rxs h
  obtain ⟨μ, S, ds, r, hx, hxs, p⟩ := h
  match ds, p with
  | [], p => exact p.elim
  | _ :: _ :: _, p => exact p.elim
  | [d], p =>
    obtain ⟨y, rfl, hy⟩ := args1 hxs
    have p : Post _ E (match S[n]? with | some (.set ks) => (match D.key? d with | some k => if ks.length + 1 < 1000 then .ok D.non (S.set n (.set (addK k ks))) else .bad | none => .bad) | _ => .bad) μ H _ := p
    split at p <;> first | exact p.elim | skip
    rename_i ks hs
    split at p <;> first | exact p.elim | skip
    rename_i k hk
    split at p
    · rename_i c
      obtain ⟨a, ha, rfl⟩ := hx
      obtain ⟨h1, h2⟩ := r.at_ n a _ ha hs
      obtain rfl : y = kV k := key_rep hk hy
      have n1 : ∀ q u, H a ≠ some (.frz q u) := fun q xs e => by rw [h1] at e; cases e
      have eS : SetK X.prog X.w a (fun j => (hasK j ks || decide (j = k))) (if hasK k ks = true then ks.length else ks.length + 1) = SetK X.prog X.w a (fun j => hasK j (addK k ks)) (addK k ks).length := by
        rw [addK_len]
        congr 1
        funext j
        rw [addK_S]
      refine mt_saddK pins s σ H _ _ v us Q I rx rxs ⟨a, k, _, _, rfl, rfl, h1, by have : scanBound = 4096 := rfl; omega, ?_⟩
      rw [eS]
      exact p μ _ (Ext.put (List.mem_of_getElem? ha) n1) (r.put ha n1 ⟨upd_same, addK_nd h2⟩) _ rfl
    · exact p.elim
theorem m_get2 (hu : X.A.units + 100 < cLine) {n : Nat} : MtR X "dict.get" fun x xs H Q => ∃ μ S ds, Rel (gX X ca) μ S H ∧ Rep X.K μ H (.loc n) x ∧ Reps X.K μ H ds xs ∧ Post (gX X ca) E (bmD .get2 (.loc n) ds S) μ H fun d2 _ μ' H' => ∀ v, Rep X.K μ' H' d2 v → Q v H' := by
  intro pins s σ H x xs v us Q I rx rxs h
  obtain ⟨μ, S, ds, r, hx, hxs, p⟩ := h
  match ds, p with
  | [], p => exact p.elim
  | [_], p => exact p.elim
  | _ :: _ :: _ :: _, p => exact p.elim
  | [k, d], p =>
    obtain ⟨y, z, rfl, hy, hz⟩ := args2 hxs
    have p : Post _ E (match S[n]? with | some (.dct _ kvs) => ok? ((D.key? k).map fun q => (lookA q kvs).getD d) S | _ => .bad) μ H _ := p
    split at p <;> first | exact p.elim | skip
    rename_i lk kvs hs
    obtain ⟨w, ew, q⟩ := p.ok? r
    obtain ⟨kk, ek, rfl⟩ := Option.map_eq_some_iff.mp ew
    obtain ⟨b, hb, rfl⟩ := hx
    obtain ⟨kvs', h1, h2, h3⟩ := r.at_ n b _ hb hs
    have rd : Rd H b (.dK kvs') := by
      cases lk with
      | true => exact .inr h1
      | false => exact .inl h1
    cases rx
    obtain ⟨u1, u2, rfl, r1, r2⟩ := vals2 rxs
    refine d_get2 (d := z) (by omega) I (.inl ⟨kvs', kk, rd, key_rep ek hy, rfl⟩) r1 r2 fun w' s' I' rw' => ⟨_, H, I', rw', q _ ?_⟩
    have lr := look_rep (k := kk) h2 h3
    cases e1 : lookA kk kvs <;> cases e2 : valV kvs' kk <;> rw [e1, e2] at lr
    · exact hz
    · exact lr.elim
    · exact lr.elim
    · exact lr
end
end Iv

set_option maxRecDepth 10000
/-! Iv10: expressions, read by the interpreter. -/
namespace Iv
open PySem PySem.Spec PyProof.Rows L2
/-! ### argument lists -/
def nst : Expr → Bool
  | .Starred .. => false
  | _ => true
theorem star_cons {e : Expr} {es : List Expr} {env : PySem.Env} (h : nst e = true) : starEach (e :: es) env = (false, eval e env) :: starEach es env := by
  cases e <;> first | rfl | cases h
theorem star_any {pos : Pos} {env : PySem.Env} : ∀ {es : List Expr}, es.all nst = true → (backTo pos (starEach es env)).any (·.1) = false
  | [], _ => rfl
  | e :: es, h => by
    have q := Bool.and_eq_true_iff.mp h
    rw [star_cons q.1]
    show (false || (backTo pos (starEach es env)).any (·.1)) = false
    rw [star_any q.2]
    rfl
theorem star_all {pos : Pos} {env : PySem.Env} : ∀ {es : List Expr}, es.all nst = true → (backTo pos (starEach es env)).all (fun x => !x.1) = true
  | [], _ => rfl
  | e :: es, h => by
    have q := Bool.and_eq_true_iff.mp h
    rw [star_cons q.1]
    show (true && (backTo pos (starEach es env)).all (fun x => !x.1)) = true
    rw [star_all q.2]
    rfl
theorem few_ok {pos : Pos} {env : PySem.Env} {es : List Expr} (h : es.all nst = true) (hl : es.length < 20) :
    ((backTo pos (starEach es env)).all (fun x => !x.1) && (backToKw pos (keywordEach [] env)).all (fun x => x.1.isSome) && decide (es.length + ([] : List Keyword).length + (if ([] : List Keyword).isEmpty then 0 else 1) < 30)) = true := by
  rw [star_all h]
  show (true && true && decide (es.length + 0 + 0 < 30)) = true
  simp only [Bool.and_self, Bool.true_and, decide_eq_true_eq]
  omega
section
variable {X : Cx} {ca : Nat → Addr} {E : XK} {F : Fns}
theorem a_nil : PA X [] (tEs (gX X ca) E F .nil) := by
  refine PA.imp pa_nil fun σ H Q q => ?_
  obtain ⟨μ, ρ, S, r, sl, p⟩ := q
  exact Post.okI (show Post _ E (.ok ([] : List D) S) μ H _ from p) r [] rfl
theorem a_cons {e : Expr} {es : List Expr} {ie : IE} {ies : IEs} (he : PE X e (tE (gX X ca) E F ie)) (hes : PA X es (tEs (gX X ca) E F ies)) (h : nst e = true) : PA X (e :: es) (tEs (gX X ca) E F (.cons ie ies)) := by
  refine PA.imp (pa_cons he hes (star_cons h)) fun σ H Q q => ?_
  obtain ⟨μ, ρ, S, r, sl, p⟩ := q
  have p : Post _ E ((evE F ie ρ S).bind fun d S1 => (evEs F ies ρ S1).bind fun ds S2 => .ok (d :: ds) S2) μ H _ := p
  refine one r sl p fun x H1 d S1 μ1 e1 r1 hx p1 => ?_
  refine many r1 (sl.mono e1) p1 fun xs H2 ds S2 μ2 e2 r2 hxs p2 => ?_
  exact p2.okI r2 (x :: xs) ⟨x, xs, rfl, hx.mono e2, hxs⟩

/-! ### operators, displays -/
theorem e_bin {op : Operator} {a b : Expr} {ia ib : IE} {pos : Pos} (ha : PE X a (tE (gX X ca) E F ia)) (hb : PE X b (tE (gX X ca) E F ib)) : PE X (.BinOp a op b pos) (tE (gX X ca) E F (.bin op ia ib)) := by
  refine PE.imp (pe_op (op_bin (ca := ca) (E := E)) ha hb) fun σ H Q q => ?_
  obtain ⟨μ, ρ, S, r, sl, p⟩ := q
  exact two r sl p fun x y H2 d d' S2 μ2 _ r2 hx hy p2 => ⟨μ2, S2, d, d', r2, hx, hy, p2⟩
theorem e_neg {a : Expr} {ia : IE} {pos : Pos} (ha : PE X a (tE (gX X ca) E F ia)) : PE X (.UnaryOp .USub a pos) (tE (gX X ca) E F (.neg ia)) := by
  refine PE.imp (pe_un un_neg ha) fun σ H Q q => ?_
  obtain ⟨μ, ρ, S, r, sl, p⟩ := q
  have p : Post _ E ((evE F ia ρ S).bind fun x S1 => match x with | .int i => .ok (D.int (-i)) S1 | _ => .bad) μ H _ := p
  refine one r sl p fun x H1 d S1 μ1 e1 r1 hx p1 => ?_
  cases d with
  | int i => exact ⟨i, hx, p1.okI r1 _ rfl⟩
  | _ => exact p1.elim
theorem e_cmp (hu : X.A.units + 100 < cLine) {op : CmpOp} {a b : Expr} {ia ib : IE} {pos : Pos} (ha : PE X a (tE (gX X ca) E F ia)) (hb : PE X b (tE (gX X ca) E F ib)) (hm : behindInMarks op b = false) : PE X (.Compare a [op] [b] pos) (tE (gX X ca) E F (.cmp op ia ib)) := by
  refine PE.imp (pe_cmpR (op_cmp (ca := ca) (E := E) hu) ha hb hm) fun σ H Q q => ?_
  obtain ⟨μ, ρ, S, r, sl, p⟩ := q
  exact two r sl p fun x y H2 d d' S2 μ2 _ r2 hx hy p2 => ⟨μ2, S2, d, d', r2, hx, hy, p2⟩
theorem e_ix (hu : X.A.units + 100 < cLine) {a b : Expr} {ia ib : IE} {pos : Pos} (ha : PE X a (tE (gX X ca) E F ia)) (hb : PE X b (tE (gX X ca) E F ib)) (hs : PlainIx b) : PE X (.Subscript a b pos) (tE (gX X ca) E F (.ix ia ib)) := by
  refine PE.imp (pe_ix (ix_all (ca := ca) (E := E) hu) ha hb hs) fun σ H Q q => ?_
  obtain ⟨μ, ρ, S, r, sl, p⟩ := q
  exact two r sl p fun x y H2 d d' S2 μ2 _ r2 hx hy p2 => ⟨μ2, S2, d, d', r2, hx, hy, p2⟩
def tEo (g : G) (E : XK) (F : Fns) (o : IO) : TO := fun σ H Q => ∃ μ ρ S, Rel g μ S H ∧ Slots g.K μ H σ ρ ∧ Post g E (evO F o ρ S) μ H fun i _ _ H' => Q i H'
theorem o_none : PO X none (tEo (gX X ca) E F .none) := by
  refine ⟨fun pins s σ H Q I q => po_none.run pins s σ H Q I ?_⟩
  obtain ⟨μ, ρ, S, r, sl, p⟩ := q
  exact Post.okI (show Post _ E (.ok (none : Option Int) S) μ H _ from p) r
theorem o_some {e : Expr} {ie : IE} (he : PE X e (tE (gX X ca) E F ie)) : PO X (some e) (tEo (gX X ca) E F (.some ie)) := by
  refine ⟨fun pins s σ H Q I q => (po_some he).run pins s σ H Q I ?_⟩
  obtain ⟨μ, ρ, S, r, sl, p⟩ := q
  have p : Post _ E ((evE F ie ρ S).bind fun x S1 => match x with | .int i => .ok (some i) S1 | _ => .bad) μ H _ := p
  refine one r sl p fun x H1 d S1 μ1 e1 r1 hx p1 => ?_
  cases d with
  | int i => exact ⟨i, hx, p1.okI r1⟩
  | _ => exact p1.elim
theorem part {α : Type} {o : IO} {μ : List Addr} {H : Hp} {S : Store} {σ : L2.St} {ρ : Env} {k : Option Int → Store → Out α} {R : α → Store → List Addr → Hp → Prop} {Q : Option Int → Hp → Prop} {g : G} (r : Rel g μ S H) (sl : Slots g.K μ H σ ρ) (p : Post g E ((evO F o ρ S).bind k) μ H R)
    (h : ∀ i H1 S1 μ1, Ext g.K μ μ1 H H1 → Rel g μ1 S1 H1 → Post g E (k i S1) μ1 H1 R → Q i H1) : tEo g E F o σ H Q :=
  ⟨μ, ρ, S, r, sl, p.bind.imp fun i S1 μ1 H1 e r1 q => h i H1 S1 μ1 e r1 q⟩
theorem e_slc {a : Expr} {ia : IE} {lo hi : Option Expr} {ilo ihi : IO} {pos p2 : Pos} (ha : PE X a (tE (gX X ca) E F ia)) (hl : PO X lo (tEo (gX X ca) E F ilo)) (hh : PO X hi (tEo (gX X ca) E F ihi)) :
    PE X (.Subscript a (.Slice lo hi none p2) pos) (tE (gX X ca) E F (.slc ia ilo ihi)) := by
  refine PE.imp (pe_slice (sl_all (ca := ca) (E := E)) ha hl hh) fun σ H Q q => ?_
  obtain ⟨μ, ρ, S, r, sl, p⟩ := q
  have p : Post _ E ((evE F ia ρ S).bind fun x S1 => (evO F ilo ρ S1).bind fun l S2 => (evO F ihi ρ S2).bind fun h S3 => slD x l h S3) μ H _ := p
  refine one r sl p fun x H1 d S1 μ1 e1 r1 hx p1 => ?_
  refine part r1 (sl.mono e1) p1 fun l H2 S2 μ2 e2 r2 p2 => ?_
  refine part r2 ((sl.mono e1).mono e2) p2 fun h H3 S3 μ3 e3 r3 p3 => ?_
  exact ⟨μ3, S3, d, r3, (hx.mono e2).mono e3, p3⟩
theorem e_lst {es : List Expr} {ies : IEs} {pos : Pos} (h : PA X es (tEs (gX X ca) E F ies)) : PE X (.List es pos) (tE (gX X ca) E F (.lst ies)) := by
  refine PE.imp (pe_lst h) fun σ H Q q => ?_
  obtain ⟨μ, ρ, S, r, sl, p⟩ := q
  have p : Post _ E ((evEs F ies ρ S).bind fun ds S1 => if ds.length ≤ sizeLine then newC (.lst ds) S1 else .bad) μ H _ := p
  refine many r sl p fun xs H1 ds S1 μ1 e1 r1 hxs p1 => ?_
  by_cases c : ds.length ≤ sizeLine
  · rw [if_pos c] at p1
    exact ⟨by rw [← hxs.length]; exact c, fun t ht => Post.lst p1 r1 hxs ht⟩
  · rw [if_neg c] at p1
    exact p1.elim
/-- a tuple display: the tuple is known to bear no dict -/
theorem e_tup {es : List Expr} {ies : IEs} {x1 : Nat} {pos : Pos} (h : PA X es (tEs (gX X ca) E F ies)) : PE X (.Tuple es x1 pos) (tE (gX X ca) E F (.tup ies)) := by
  refine ⟨fun pins s σ H Q I q => ?_⟩
  obtain ⟨μ, ρ, S, r, sl, p⟩ := q
  have p : Post _ E ((evEs F ies ρ S).bind fun ds S1 => if ds.length ≤ sizeLine then .ok (D.tup ds) S1 else .bad) μ H _ := p
  refine wpAny_Tuple_spliced (thn (h.run pos pins s σ H (fun xs H1 => ∃ μ1 S1 ds, Rel (gX X ca) μ1 S1 H1 ∧ Reps X.K μ1 H1 ds xs ∧ ds.length ≤ sizeLine ∧ Post (gX X ca) E (.ok (D.tup ds) S1) μ1 H1 fun d2 _ μ' H' => ∀ v, Rep X.K μ' H' d2 v → Q v H') I
    (many r sl p fun xs H1 ds S1 μ1 e1 r1 hxs p1 => ?_)) fun us s1 ⟨xs, H1, I1, rv, μ1, S1, ds, r1, hxs, z, p1⟩ => ?_)
  · by_cases c : ds.length ≤ sizeLine
    · rw [if_pos c] at p1
      exact ⟨μ1, S1, ds, r1, hxs, c, p1⟩
    · rw [if_neg c] at p1
      exact p1.elim
  · have hz : xs.length ≤ sizeLine := by rw [← hxs.length]; exact z
    refine ⟨by rw [← rv.length]; exact hz, ?_⟩
    obtain ⟨hh, gs, dd, tk, os⟩ := s1
    exact EP.tup I1 rv hz p1 r1 hxs
/-- a call of a built-in function, a built-in type -/
theorem e_bfn {id : String} {x : Str} {b : Bf} {e : Expr} {es : List Expr} {ies : IEs} {p pos : Pos} (hc : CallR X (.builtin id) (rN (gX X ca) E (bfD b))) (hg : Gl X x) (hm : X.mg x = none) (hv : bootBuiltins x = some (.builtin id)) (ha : PA X (e :: es) (tEs (gX X ca) E F ies)) (hn : x ≠ "__name__")
    (hd : (x == ("__debug__" : Str)) = false) (hs : (e :: es).all nst = true) : PE X (.Call (.Name x p) (e :: es) [] pos) (tE (gX X ca) E F (.bf b ies)) := by
  have q := Bool.and_eq_true_iff.mp hs
  refine PE.imp (pe_callB hc hg hm hv ha hn hd (star_cons q.1) (star_any q.2)) fun σ H Q q => ?_
  obtain ⟨μ, ρ, S, r, sl, p⟩ := q
  exact many r sl p fun xs H1 ds S1 μ1 e1 r1 hxs p1 => ⟨μ1, S1, ds, r1, hxs, p1⟩
theorem e_bty {T : String} {x : Str} {b : Bf} {e : Expr} {es : List Expr} {ies : IEs} {p pos : Pos} (hc : CallR X (.type T) (rN (gX X ca) E (bfD b))) (hg : Gl X x) (hm : X.mg x = none) (hv : bootBuiltins x = some (.type T)) (ha : PA X (e :: es) (tEs (gX X ca) E F ies)) (hn : x ≠ "__name__")
    (hd : (x == ("__debug__" : Str)) = false) (hs : (e :: es).all nst = true) : PE X (.Call (.Name x p) (e :: es) [] pos) (tE (gX X ca) E F (.bf b ies)) := by
  have q := Bool.and_eq_true_iff.mp hs
  refine PE.imp (pe_callTy hc hg hm hv ha hn hd (star_cons q.1) (star_any q.2)) fun σ H Q q => ?_
  obtain ⟨μ, ρ, S, r, sl, p⟩ := q
  exact many r sl p fun xs H1 ds S1 μ1 e1 r1 hxs p1 => ⟨μ1, S1, ds, r1, hxs, p1⟩
/-- a call of a method of a built-in type -/
theorem bm_at (hu : X.A.units + 100 < cLine) {m : Bm} {d : D} {v : Value} {x : V} {pins : List (Addr × Obj)} {s : Shared} {σ : L2.St} {H : Hp} {μ : List Addr} {S : Store} (I : Inv X pins σ H s) (r : Rel (gX X ca) μ S H) (rx : RelV x v) (hx : Rep X.K μ H d x) (k : bmK m d S = true) : BmAt X ca E m d v s := by
  cases d with
  | str z =>
    obtain rfl : x = .str z := hx
    obtain ⟨t, rfl⟩ := rx
    cases m <;> first | cases k | skip
    · exact ⟨"str", "str.upper", PySem.F.plainAttrs_str, PySem.F.slot_str_upper, PySem.F.type_str_upper, typeIs_str s z t, (fun _ e => nomatch e), m_upper⟩
    · exact ⟨"str", "str.lower", PySem.F.plainAttrs_str, PySem.F.slot_str_lower, PySem.F.type_str_lower, typeIs_str s z t, (fun _ e => nomatch e), m_lower⟩
  | tup zs =>
    obtain ⟨a, vs, rfl, h1, h2⟩ := hx
    cases rx
    cases m <;> first | cases k | skip
    exact ⟨"tuple", "tuple.index", PySem.F.plainAttrs_tuple, PySem.F.slot_tuple_index, PySem.F.type_tuple_index, (tup_type I h1).1, (tup_type I h1).2, m_indexT⟩
  | loc n =>
    have hx0 := hx
    obtain ⟨a, ha, rfl⟩ := hx
    cases rx
    cases hs : S[n]? with
    | none =>
      simp only [bmK, hs] at k
      cases k
    | some c =>
      have ok := r.at_ n a c ha hs
      simp only [bmK, hs] at k
      cases c with
      | lst ys =>
        obtain ⟨vs, h1, h2⟩ := ok
        cases m <;> first | cases k | skip
        · exact list_meth I h1 PySem.F.slot_list_append PySem.F.type_list_append m_append
        · exact list_meth I h1 PySem.F.slot_list_pop PySem.F.type_list_pop m_pop
        · exact list_meth I h1 PySem.F.slot_list_pop PySem.F.type_list_pop m_popAt
        · exact list_meth I h1 PySem.F.slot_list_index PySem.F.type_list_index (m_indexL fun ys e => nomatch e)
      | set ks =>
        obtain ⟨h1, h2⟩ := ok
        have hS := setK_get I h1
        cases m <;> first | cases k | skip
        exact ⟨"set", "set.add", PySem.F.plainAttrs_set, PySem.F.slot_set_add, PySem.F.type_set_add, hS.typeIs, hS.noDict, m_add⟩
      | dct lk kvs =>
        obtain ⟨kvs', h1, _, _⟩ := ok
        have rd : Rd H a (.dK kvs') := by
          cases lk with
          | true => exact .inr h1
          | false => exact .inl h1
        obtain ⟨z1, z2, vs, rel, dd⟩ := dk_rd I.hok rd
        cases m <;> first | cases k | skip
        obtain ⟨o, es, ep, g1, g2, g3⟩ := id dd
        exact ⟨"dict", "dict.get", PySem.F.plainAttrs_dict, PySem.F.slot_dict_get, PySem.F.type_dict_get, dd.typeIs, fun b e => by cases e; exact ⟨o, g1, g2.2.1⟩, m_get2 hu⟩
      | dtp _ => cases m <;> cases k
      | ins _ _ => cases m <;> cases k
  | _ => cases k
theorem e_bm (hu : X.A.units + 100 < cLine) {m : Bm} {o e : Expr} {io : IE} {es : List Expr} {ies : IEs} {apos cpos : Pos} (ho : PE X o (tE (gX X ca) E F io)) (ha : PA X (e :: es) (tEs (gX X ca) E F ies))
    (hbase : attributeBase o m.name X.env (eval o X.env) = eval o X.env) (hline : (apos.endLine == cpos.line) = true) (hs : (e :: es).all nst = true) (hl : (e :: es).length < 20) : PE X (.Call (.Attribute o m.name apos) (e :: es) [] cpos) (tE (gX X ca) E F (.bm m io ies)) := by
  refine ⟨fun pins s σ H Q I q => ?_⟩
  obtain ⟨μ, ρ, S, r, sl, p⟩ := q
  have p : Post _ E ((evE F io ρ S).bind fun x S1 => if bmK m x S1 then (evEs F ies ρ S1).bind fun ds S2 => bmD m x ds S2 else .bad) μ H _ := p
  refine wpAny_Call_method_late hbase (few_ok hs hl) hline rfl (thn (ho.run pins s σ H (fun x H1 => ∃ μ1 S1 d, Rel (gX X ca) μ1 S1 H1 ∧ Rep X.K μ1 H1 d x ∧ Ext X.K μ μ1 H H1 ∧ bmK m d S1 = true ∧
    Post (gX X ca) E ((evEs F ies ρ S1).bind fun ds S2 => bmD m d ds S2) μ1 H1 fun d2 _ μ' H' => ∀ v, Rep X.K μ' H' d2 v → Q v H') I (one r sl p fun x H1 d S1 μ1 e1 r1 hx p1 => ?_)) fun v s1 ⟨x, H1, I1, rx, μ1, S1, d, r1, hx, e1, k, p1⟩ => ?_)
  · by_cases k : bmK m d S1 = true
    · rw [if_pos k] at p1
      exact ⟨μ1, S1, d, r1, hx, e1, k, p1⟩
    · rw [if_neg k] at p1
      exact p1.elim
  · obtain ⟨T, id, pa, slot, ty, h1, h2, hm⟩ := (bm_at (E := E) hu I1 r1 rx hx k).ex
    refine ⟨T, id, pa, slot, ty, h1, h2, ?_⟩
    have hA := ha.run cpos pins s1 σ H1 (fun xs H2 => ∃ μ2 S2 ds, Rel (gX X ca) μ2 S2 H2 ∧ Rep X.K μ2 H2 d x ∧ Reps X.K μ2 H2 ds xs ∧ Post (gX X ca) E (bmD m d ds S2) μ2 H2 fun d2 _ μ' H' => ∀ v, Rep X.K μ' H' d2 v → Q v H') I1
      (many r1 (sl.mono e1) p1 fun xs H2 ds S2 μ2 e2 r2 hxs p2 => ⟨μ2, S2, ds, r2, hx.mono e2, hxs, p2⟩)
    have q := Bool.and_eq_true_iff.mp hs
    rw [star_cons q.1] at hA ⊢
    refine Calls.callWith_builtin (by show (false || (backTo cpos (starEach es X.env)).any (·.1)) = false; rw [star_any q.2]; rfl) (Calls.evalArgs_plain ?_)
    exact thn hA fun us s2 ⟨xs, H2, I2, r2, q2⟩ => hm pins s2 σ H2 x xs v us Q I2 rx r2 q2
theorem e_bm0 (hu : X.A.units + 100 < cLine) {m : Bm} {o : Expr} {io : IE} {apos cpos : Pos} (ho : PE X o (tE (gX X ca) E F io))
    (hbase : attributeBase o m.name X.env (eval o X.env) = eval o X.env) (hline : (apos.endLine == cpos.line) = true) : PE X (.Call (.Attribute o m.name apos) [] [] cpos) (tE (gX X ca) E F (.bm m io .nil)) := by
  refine ⟨fun pins s σ H Q I q => ?_⟩
  obtain ⟨μ, ρ, S, r, sl, p⟩ := q
  have p : Post _ E ((evE F io ρ S).bind fun x S1 => if bmK m x S1 then (Out.ok ([] : List D) S1).bind fun ds S2 => bmD m x ds S2 else .bad) μ H _ := p
  refine wpAny_Call_method0_late hbase hline (thn (ho.run pins s σ H (fun x H1 => ∃ μ1 S1 d, Rel (gX X ca) μ1 S1 H1 ∧ Rep X.K μ1 H1 d x ∧ bmK m d S1 = true ∧
    Post (gX X ca) E (bmD m d [] S1) μ1 H1 fun d2 _ μ' H' => ∀ v, Rep X.K μ' H' d2 v → Q v H') I (one r sl p fun x H1 d S1 μ1 e1 r1 hx p1 => ?_)) fun v s1 ⟨x, H1, I1, rx, μ1, S1, d, r1, hx, k, p1⟩ => ?_)
  · by_cases k : bmK m d S1 = true
    · rw [if_pos k] at p1
      exact ⟨μ1, S1, d, r1, hx, k, p1⟩
    · rw [if_neg k] at p1
      exact p1.elim
  · obtain ⟨T, id, pa, slot, ty, h1, h2, hm⟩ := (bm_at (E := E) hu I1 r1 rx hx k).ex
    exact ⟨T, id, pa, slot, ty, h1, h2, Calls.callWith_builtin rfl (PySem.evalArgs_none (hm pins s1 σ H1 x [] v [] Q I1 rx .nil ⟨μ1, S1, [], r1, hx, rfl, p1⟩))⟩
end
end Iv

set_option maxRecDepth 10000
/-! Iv11: tests, and, or, not; calls of own defs. -/
namespace Iv
open PySem PySem.Spec PyProof.Rows L2
def tT (g : G) (E : XK) (F : Fns) (e : IE) : TT := fun σ H Q => ∃ μ ρ S, Rel g μ S H ∧ Slots g.K μ H σ ρ ∧ Post g E ((evE F e ρ S).bind truO) μ H fun k _ _ H' => Q k H'
/-- an expression whose test is its value's -/
def plainT : Expr → Bool
  | .BoolOp .. | .UnaryOp .. | .Compare .. | .IfExp .. => false
  | _ => true
section
variable {X : Cx} {ca : Nat → Addr} {E : XK} {F : Fns}
theorem plain_test {e : Expr} {env : PySem.Env} (h : plainT e = true) : ∀ whole, isTrue e env whole = (do let v ← whole; standAt e.pos; holding [v] (truthy v)) := by
  intro whole
  cases e <;> first | rfl | cases h
theorem tru_rep {μ : List Addr} {H : Hp} {S : Store} {d : D} {x : V} {k : Bool} (r : Rel (gX X ca) μ S H) (h : Rep X.K μ H d x) (e : tru S d = some k) : TruV X.K x H k := by
  cases d with
  | non =>
    obtain rfl : x = .non := h
    cases e
    rfl
  | bl b =>
    obtain rfl : x = .bl b := h
    cases e
    rfl
  | int i =>
    obtain rfl : x = .int i := h
    cases e
    rfl
  | str z =>
    obtain rfl : x = .str z := h
    have e : (if z.length ≤ sizeLine then some (z.length != 0) else none) = some k := e
    by_cases c : z.length ≤ sizeLine
    · rw [if_pos c] at e
      cases e
      exact ⟨c, by rw [Bool.eq_iff_iff]; simp⟩
    · rw [if_neg c] at e
      cases e
  | tup xs =>
    obtain ⟨a, vs, rfl, h1, h2⟩ := h
    cases e
    refine .inr (.inl ⟨vs, h1.sq, ?_⟩)
    have := h2.length
    cases xs <;> cases vs <;> simp_all
  | rol xs =>
    obtain ⟨a, vs, rfl, h1, h2⟩ := h
    cases e
    refine .inl ⟨vs, h1.sq, ?_⟩
    have := h2.length
    cases xs <;> cases vs <;> simp_all
  | loc n =>
    simp only [tru] at e
    split at e
    · rename_i xs hs
      cases e
      obtain ⟨a, vs, _, rfl, h1, h2⟩ := r.lstAt h hs
      refine .inl ⟨vs, .of h1, ?_⟩
      have := h2.length
      cases xs <;> cases vs <;> simp_all
    · cases e
theorem t_of_e {e : Expr} {ie : IE} (he : PE X e (tE (gX X ca) E F ie)) (h : plainT e = true) : PT X e (tT (gX X ca) E F ie) := by
  refine PT.imp (pt_truth he (plain_test h)) fun σ H Q q => ?_
  obtain ⟨μ, ρ, S, r, sl, p⟩ := q
  refine one r sl p fun x H1 d S1 μ1 e1 r1 hx p1 => ?_
  obtain ⟨k, ek, q⟩ := Post.ok? (show Post _ E (ok? (tru S1 d) S1) μ1 H1 _ from p1) r1
  exact ⟨k, tru_rep r1 hx ek, q⟩
theorem t_cmp (hu : X.A.units + 100 < cLine) {op : CmpOp} {a b : Expr} {ia ib : IE} {pos : Pos} (ha : PE X a (tE (gX X ca) E F ia)) (hb : PE X b (tE (gX X ca) E F ib)) (hm : behindInMarks op b = false) : PT X (.Compare a [op] [b] pos) (tT (gX X ca) E F (.cmp op ia ib)) := by
  refine PT.imp (pt_cmpR (op_cmp (ca := ca) (E := E) hu) ha hb hm) fun σ H Q q => ?_
  obtain ⟨μ, ρ, S, r, sl, p⟩ := q
  have p : Post _ E (((evE F ia ρ S).bind fun x S1 => (evE F ib ρ S1).bind fun y S2 => ok? ((cmpD op x y S2).map D.bl) S2).bind truO) μ H _ := p
  rw [show ∀ {α β γ : Type} (o : Out α) (f : α → Store → Out β) (k : β → Store → Out γ), (o.bind f).bind k = o.bind fun a S => (f a S).bind k from fun o f k => by cases o <;> rfl] at p
  refine one r sl p fun x H1 d S1 μ1 e1 r1 hx p1 => ?_
  rw [show ∀ {α β γ : Type} (o : Out α) (f : α → Store → Out β) (k : β → Store → Out γ), (o.bind f).bind k = o.bind fun a S => (f a S).bind k from fun o f k => by cases o <;> rfl] at p1
  refine one r1 (sl.mono e1) p1 fun y H2 d' S2 μ2 e2 r2 hy p2 => ?_
  refine ⟨μ2, S2, d, d', r2, hx.mono e2, hy, ?_⟩
  cases hc : cmpD op d d' S2 with
  | none => rw [hc] at p2; exact p2.elim
  | some k =>
    rw [hc] at p2
    show Post _ E (ok? ((cmpD op d d' S2).map D.bl) S2) μ2 H2 _
    rw [hc]
    intro μ' H' e' r' v hv
    obtain rfl : v = .bl k := hv
    exact ⟨k, rfl, Post.okI (show Post _ E (.ok k S2) μ' H' _ from p2.pre e') r'⟩
theorem Out.assoc {α β γ : Type} (o : Out α) (f : α → Store → Out β) (k : β → Store → Out γ) : (o.bind f).bind k = o.bind fun a S => (f a S).bind k := by cases o <;> rfl
theorem blO_eq {d : D} {S : Store} {α : Type} {g : G} {μ : List Addr} {H : Hp} {k : Bool → Store → Out α} {R : α → Store → List Addr → Hp → Prop} (p : Post g E ((blO d S).bind k) μ H R) : ∃ b, d = .bl b ∧ Post g E (k b S) μ H R := by
  cases d with
  | bl b => exact ⟨b, rfl, p⟩
  | _ => exact p.elim
/-! ### not -/
theorem e_not {a : Expr} {ia : IE} {pos : Pos} (ha : PE X a (tE (gX X ca) E F ia)) : PE X (.UnaryOp .Not a pos) (tE (gX X ca) E F (.not ia)) := by
  refine PE.imp (pe_not ha) fun σ H Q q => ?_
  obtain ⟨μ, ρ, S, r, sl, p⟩ := q
  have p : Post _ E ((evE F ia ρ S).bind fun x S1 => (blO x S1).bind fun k _ => .ok (D.bl (!k)) S1) μ H _ := p
  refine one r sl p fun x H1 d S1 μ1 e1 r1 hx p1 => ?_
  obtain ⟨b, rfl, p2⟩ := blO_eq p1
  exact ⟨b, hx, p2.okI r1 _ rfl⟩
theorem t_not {a : Expr} {ia : IE} {pos : Pos} (ha : PT X a (tT (gX X ca) E F ia)) : PT X (.UnaryOp .Not a pos) (tT (gX X ca) E F (.not ia)) := by
  refine PT.imp (pt_not ha) fun σ H Q q => ?_
  obtain ⟨μ, ρ, S, r, sl, p⟩ := q
  have p : Post _ E (((evE F ia ρ S).bind fun x S1 => (blO x S1).bind fun k _ => .ok (D.bl (!k)) S1).bind truO) μ H _ := p
  rw [Out.assoc] at p
  refine ⟨μ, ρ, S, r, sl, ?_⟩
  cases ho : evE F ia ρ S with
  | ok d S1 =>
    rw [ho] at p
    cases d with
    | bl b => exact p
    | _ => exact p.elim
  | ex c fs S1 => rw [ho] at p; exact p
  | bad => rw [ho] at p; exact p
/-! ### and, or -/
theorem e_and {a b : Expr} {es : List Expr} {ia ib : IE} {pos : Pos} (ha : PE X a (tE (gX X ca) E F ia)) (hb : PE X (.BoolOp .And (b :: es) pos) (tE (gX X ca) E F ib)) : PE X (.BoolOp .And (a :: b :: es) pos) (tE (gX X ca) E F (.and ia ib)) := by
  refine PE.imp (pe_and ha hb) fun σ H Q q => ?_
  obtain ⟨μ, ρ, S, r, sl, p⟩ := q
  have p : Post _ E ((evE F ia ρ S).bind fun x S1 => (blO x S1).bind fun k _ => if k then evE F ib ρ S1 else .ok (D.bl false) S1) μ H _ := p
  refine one r sl p fun x H1 d S1 μ1 e1 r1 hx p1 => ?_
  obtain ⟨k, rfl, p2⟩ := blO_eq p1
  refine ⟨k, hx, ?_⟩
  cases k with
  | true => exact iteT ⟨μ1, ρ, S1, r1, sl.mono e1, p2⟩
  | false => exact iteF (Post.okI (show Post _ E (.ok (D.bl false) S1) μ1 H1 _ from p2) r1 _ rfl)
theorem e_or {a b : Expr} {es : List Expr} {ia ib : IE} {pos : Pos} (ha : PE X a (tE (gX X ca) E F ia)) (hb : PE X (.BoolOp .Or (b :: es) pos) (tE (gX X ca) E F ib)) : PE X (.BoolOp .Or (a :: b :: es) pos) (tE (gX X ca) E F (.or ia ib)) := by
  refine PE.imp (pe_or ha hb) fun σ H Q q => ?_
  obtain ⟨μ, ρ, S, r, sl, p⟩ := q
  have p : Post _ E ((evE F ia ρ S).bind fun x S1 => (blO x S1).bind fun k _ => if k then .ok (D.bl true) S1 else evE F ib ρ S1) μ H _ := p
  refine one r sl p fun x H1 d S1 μ1 e1 r1 hx p1 => ?_
  obtain ⟨k, rfl, p2⟩ := blO_eq p1
  refine ⟨k, hx, ?_⟩
  cases k with
  | false => exact iteF ⟨μ1, ρ, S1, r1, sl.mono e1, p2⟩
  | true => exact iteT (Post.okI (show Post _ E (.ok (D.bl true) S1) μ1 H1 _ from p2) r1 _ rfl)
theorem PW.imp {e : Expr} {t t' : TT} (h : PW X e t) (i : ∀ σ H Q, t' σ H Q → t σ H Q) : PW X e t' := ⟨fun wh pins s σ H Q I q => h.run wh pins s σ H Q I (i σ H Q q)⟩
theorem w_and {a b : Expr} {es : List Expr} {ia ib : IE} {pos : Pos} (ha : PT X a (tT (gX X ca) E F ia)) (hb : PW X (.BoolOp .And (b :: es) pos) (tT (gX X ca) E F ib)) : PW X (.BoolOp .And (a :: b :: es) pos) (tT (gX X ca) E F (.and ia ib)) := by
  refine PW.imp (pw_and ha hb) fun σ H Q q => ?_
  obtain ⟨μ, ρ, S, r, sl, p⟩ := q
  have p : Post _ E (((evE F ia ρ S).bind fun x S1 => (blO x S1).bind fun k _ => if k then evE F ib ρ S1 else .ok (D.bl false) S1).bind truO) μ H _ := p
  rw [Out.assoc] at p
  refine ⟨μ, ρ, S, r, sl, ?_⟩
  cases ho : evE F ia ρ S with
  | ok d S1 =>
    rw [ho] at p
    cases d with
    | bl k =>
      intro μ1 H1 e1 r1
      cases k with
      | true => exact iteT ⟨μ1, ρ, S1, r1, sl.mono e1, Post.pre e1 p⟩
      | false => exact iteF (Post.okI (show Post _ E (.ok false S1) μ1 H1 _ from Post.pre e1 p) r1)
    | _ => exact p.elim
  | ex c fs S1 => rw [ho] at p; exact p
  | bad => rw [ho] at p; exact p
theorem w_or {a b : Expr} {es : List Expr} {ia ib : IE} {pos : Pos} (ha : PT X a (tT (gX X ca) E F ia)) (hb : PW X (.BoolOp .Or (b :: es) pos) (tT (gX X ca) E F ib)) : PW X (.BoolOp .Or (a :: b :: es) pos) (tT (gX X ca) E F (.or ia ib)) := by
  refine PW.imp (pw_or ha hb) fun σ H Q q => ?_
  obtain ⟨μ, ρ, S, r, sl, p⟩ := q
  have p : Post _ E (((evE F ia ρ S).bind fun x S1 => (blO x S1).bind fun k _ => if k then .ok (D.bl true) S1 else evE F ib ρ S1).bind truO) μ H _ := p
  rw [Out.assoc] at p
  refine ⟨μ, ρ, S, r, sl, ?_⟩
  cases ho : evE F ia ρ S with
  | ok d S1 =>
    rw [ho] at p
    cases d with
    | bl k =>
      intro μ1 H1 e1 r1
      cases k with
      | false => exact iteF ⟨μ1, ρ, S1, r1, sl.mono e1, Post.pre e1 p⟩
      | true => exact iteT (Post.okI (show Post _ E (.ok true S1) μ1 H1 _ from Post.pre e1 p) r1)
    | _ => exact p.elim
  | ex c fs S1 => rw [ho] at p; exact p
  | bad => rw [ho] at p; exact p
/-- a if c else b -/
theorem e_ite {c a b : Expr} {ic ia ib : IE} {pos : Pos} (hc : PT X c (tT (gX X ca) E F ic)) (ha : PE X a (tE (gX X ca) E F ia)) (hb : PE X b (tE (gX X ca) E F ib)) : PE X (.IfExp c a b pos) (tE (gX X ca) E F (.ite ic ia ib)) := by
  refine PE.imp (pe_ifExp hc ha hb) fun σ H Q q => ?_
  obtain ⟨μ, ρ, S, r, sl, p⟩ := q
  have p : Post _ E ((evE F ic ρ S).bind fun x S1 => (blO x S1).bind fun k _ => if k then evE F ia ρ S1 else evE F ib ρ S1) μ H _ := p
  refine ⟨μ, ρ, S, r, sl, ?_⟩
  cases ho : evE F ic ρ S with
  | ok d S1 =>
    rw [ho] at p
    cases d with
    | bl k =>
      intro μ1 H1 e1 r1
      cases k with
      | false => exact iteF ⟨μ1, ρ, S1, r1, sl.mono e1, Post.pre e1 p⟩
      | true => exact iteT ⟨μ1, ρ, S1, r1, sl.mono e1, Post.pre e1 p⟩
    | _ => exact p.elim
  | ex c fs S1 => rw [ho] at p; exact p
  | bad => rw [ho] at p; exact p
/-- a op b op' c -/
theorem e_chn (hu : X.A.units + 100 < cLine) {op op' : CmpOp} {a b c : Expr} {ia ib ic : IE} {pos : Pos} (ha : PE X a (tE (gX X ca) E F ia)) (hb : PE X b (tE (gX X ca) E F ib)) (hc : PE X c (tE (gX X ca) E F ic))
    (rule : PE X (.Compare a [op, op'] [b, c] pos) (tChain (r2 (gX X ca) E fun a b S => ok? ((cmpD op a b S).map D.bl) S) (r2 (gX X ca) E fun a b S => ok? ((cmpD op' a b S).map D.bl) S) (tE (gX X ca) E F ia) (tE (gX X ca) E F ib) (tE (gX X ca) E F ic))) :
    PE X (.Compare a [op, op'] [b, c] pos) (tE (gX X ca) E F (.chn op op' ia ib ic)) := by
  refine PE.imp rule fun σ H Q q => ?_
  obtain ⟨μ, ρ, S, r, sl, p⟩ := q
  have p : Post _ E ((evE F ia ρ S).bind fun x S1 => (evE F ib ρ S1).bind fun y S2 => (ok? (cmpD op x y S2) S2).bind fun k _ => if k then (evE F ic ρ S2).bind fun z S3 => ok? ((cmpD op' y z S3).map D.bl) S3 else .ok (D.bl false) S2) μ H _ := p
  refine two r sl p fun x y H2 d d' S2 μ2 e2 r2 hx hy p2 => ?_
  cases hcm : cmpD op d d' S2 with
  | none => rw [hcm] at p2; exact p2.elim
  | some k =>
    rw [hcm] at p2
    refine ⟨μ2, S2, d, d', r2, hx, hy, ?_⟩
    show Post _ E (ok? ((cmpD op d d' S2).map D.bl) S2) μ2 H2 _
    rw [hcm]
    intro μ3 H3 e3 r3 v hv
    obtain rfl : v = .bl k := hv
    refine ⟨k, rfl, ?_⟩
    cases k with
    | false => exact iteF (Post.okI (show Post _ E (.ok (D.bl false) S2) μ3 H3 _ from Post.pre e3 p2) r3 _ rfl)
    | true =>
      refine iteT ?_
      have p3 : Post _ E ((evE F ic ρ S2).bind fun z S3 => ok? ((cmpD op' d' z S3).map D.bl) S3) μ3 H3 _ := Post.pre e3 p2
      exact one r3 ((sl.mono e2).mono e3) p3 fun z H4 d4 S4 μ4 e4 r4 hz p4 => ⟨μ4, S4, d', d4, r4, (hy.mono e3).mono e4, hz, p4⟩
/-! ### an own def -/
/-- a def's promise: as the interpreter says -/
def spOf (g : G) (k : List D → Store → Out D) : Sp := fun vs H Q E => ∃ μ S ds, Rel g μ S H ∧ Reps g.K μ H ds vs ∧ Post g E (k ds S) μ H fun d _ μ' H' => ∀ v, Rep g.K μ' H' d v → Q v H'
/-- as FnOk, where no repr runs around -/
structure FnG (P : Program) (w : World) (K : PySem.W.Frag) (mg : PySem.Str → Option Value) (base : Heap) (CX : CXT) (k : Nat) (f : Addr) (fd : FuncData) (ps : List PySem.Str) (sp : Sp) : Prop where
  len : ∀ vs H Q E, sp vs H Q E → vs.length = ps.length
  run : ∀ (A : Around) (outer : List PySem.Env) (s : Shared) (H : Hp) (args : Args) (us : List Value) (vs : List V) (Q : VK) (E : XK), Room k A → A.guards = some [] → Env0 P w K mg base A outer s H → BindsTo s fd args (ps.zip us) → Vals vs us → sp vs H Q E →
    codeAny (model P w) A (.call (.ref f) args) (CR CX outer P w H s Q E) s
/-- what the world of a body says of an own def -/
structure Own (X : Cx) (F : Fns) (ca : Nat → Addr) (k : Nat) (f : Nat) (x : PySem.Str) (ps : List PySem.Str) : Prop where
  ex : ∃ (a : Addr) (fd : FuncData), X.mg x = some (.ref a) ∧ PySem.W.keepIn X.K (.ref a) = true ∧ Binds X.K fd ps [] ∧ FnG X.prog X.w X.K X.mg X.base (L2.CX X.prog X.w) k a fd ps (spOf (gX X ca) (F f))
theorem run_own {a : Addr} {fd : FuncData} {ps : List PySem.Str} {k : Nat} {sp : Sp} {pins : List (Addr × Obj)} {s : Shared} {σ : L2.St} {H : Hp} {Q : VK} {us : List Value} {vs : List V} (G1 : FnG X.prog X.w X.K X.mg X.base (L2.CX X.prog X.w) k a fd ps sp) (hr : Room k X.A) (hg : X.A.guards = some []) (hb : Binds X.K fd ps [])
    (hx : Passes (L2.CX X.prog X.w) X E) (I : Inv X pins σ H s) (r : Vals vs us) (h : sp vs H Q E) : wpAny (model X.prog X.w) X.A (call (.ref a) us) (EP X pins σ Q) X.xe s := by
  have hl : (us ++ []).length = ps.length := by
    rw [List.append_nil, ← r.length]
    exact G1.len _ _ _ _ h
  have hbt := hb s us I.kIn hl
  rw [List.append_nil] at hbt
  refine wpAny_call (codeAny_mono (G1.run X.A X.stack s H ⟨us, []⟩ us vs Q E hr hg I.env0 hbt r h) fun r2 s' hq => ?_)
  rcases r2 with e | (_ | u | _ | _)
  · exact hx pins σ H s e s' I hq
  all_goals first | exact I.after hq | exact False.elim hq
theorem e_call {f : Nat} {x : PySem.Str} {ps : List PySem.Str} {k : Nat} {es : List Expr} {ies : IEs} {p pos : Pos} (O : Own X F ca k f x ps) (hr : Room k X.A) (hg : X.A.guards = some []) (hx : Passes (L2.CX X.prog X.w) X E) (hgl : Gl X x) (hd : (x == ("__debug__" : PySem.Str)) = false)
    (ha : PA X es (tEs (gX X ca) E F ies)) (hs : es.all nst = true) (hn : es = [] → ies = .nil) : PE X (.Call (.Name x p) es [] pos) (tE (gX X ca) E F (.call f ies)) := by
  obtain ⟨a, fd, hm, hk, hb, G1⟩ := O.ex
  refine ⟨fun pins s σ H Q I q => ?_⟩
  obtain ⟨μ, ρ, S, r, sl, p⟩ := q
  have p : Post _ E ((evEs F ies ρ S).bind fun ds S1 => F f ds S1) μ H _ := p
  refine wpAny_Call_Name_kw (ld_glob I hgl hm ?_ hd)
  cases es with
  | nil =>
    obtain rfl := hn rfl
    exact PySem.W.callWith_K0 I.kIn hk (run_own (us := []) (vs := []) G1 hr hg hb hx I .nil ⟨μ, S, [], r, rfl, p⟩)
  | cons e es' =>
    have hq := Bool.and_eq_true_iff.mp hs
    refine PySem.W.callWith_K (h₀ := X.base) I.ok.mod.kin hk (thn (ha.run pos pins s σ H (fun xs H1 => ∃ μ1 S1 ds, Rel (gX X ca) μ1 S1 H1 ∧ Reps X.K μ1 H1 ds xs ∧ Post (gX X ca) E (F f ds S1) μ1 H1 fun d2 _ μ' H' => ∀ v, Rep X.K μ' H' d2 v → Q v H') I
      (many r sl p fun xs H1 ds S1 μ1 e1 r1 hxs p1 => ⟨μ1, S1, ds, r1, hxs, p1⟩)) fun us s1 ⟨vs, H1, I1, rv, q1⟩ => ⟨I1.kIn, ?_⟩) (star_cons hq.1) (star_any hq.2)
    exact run_own G1 hr hg hb hx I1 rv q1
end
end Iv

set_option maxRecDepth 10000
/-! Iv12: what loops walk. -/
namespace Iv
open PySem PySem.Spec PyProof.Rows L2
/-- what a loop hands to its target: a tuple that is only to be unpacked need not be known as one without a dict -/
def RepU (K : PySem.W.Frag) (μ : List Addr) (H : Hp) (t : IT) (d : D) (x : V) : Prop :=
  Rep K μ H d x ∨ ((∃ ts, t = .tup ts) ∧ ∃ ds T vs, d = .tup ds ∧ x = .ref T ∧ SqT K H T vs ∧ Reps K μ H ds vs)
structure ItOk (g : G) (t : IT) (J : It) (items : List D) (src : Src) (μ1 : List Addr) (H1 : Hp) : Prop where
  go : ∀ i d μ' S' H', Ext g.K μ1 μ' H1 H' → Rel g μ' S' H' → src.ok S' = true → items[i]? = some d → J.go i H' ∧ ∀ x H2, J.yld i H' x H2 → Ext g.K μ' μ' H' H2 ∧ Rel g μ' S' H2 ∧ RepU g.K μ' H2 t d x
  stop : ∀ μ' S' H' i, Ext g.K μ1 μ' H1 H' → Rel g μ' S' H' → src.ok S' = true → items.length ≤ i → J.stop i H'
def tI (g : G) (E : XK) (F : Fns) (t : IT) (it : II) : TI := fun σ H R => ∃ μ ρ S, Rel g μ S H ∧ Slots g.K μ H σ ρ ∧ Post g E (evI F it ρ S) μ H fun p _ μ1 H1 => ∀ J, ItOk g t J p.1 p.2 μ1 H1 → R J H1
section
variable {X : Cx} {ca : Nat → Addr} {E : XK} {F : Fns} {t : IT}
theorem it_list {μ1 : List Addr} {H1 : Hp} {S1 : Store} {n : Nat} {a : Addr} {xs : List D} (ha : μ1[n]? = some a) : ItOk (gX X ca) t (Itl X.K a) xs (.lst n xs) μ1 H1 := by
  have key : ∀ μ' S' H', Ext X.K μ1 μ' H1 H' → Rel (gX X ca) μ' S' H' → (Src.lst n xs).ok S' = true → ∃ vs, H' a = some (.lst vs) ∧ Reps X.K μ' H' xs vs := fun μ' S' H' e r ok => by
    have e1 : lstAt S' n = some xs := of_decide_eq_true ok
    unfold lstAt at e1
    split at e1
    · rename_i ys hs
      cases e1
      obtain ⟨vs, h1, h2⟩ := r.at_ n a _ (e.at_ ha) hs
      exact ⟨vs, h1, h2⟩
    · cases e1
  refine ⟨fun i d μ' S' H' e r ok hi => ?_, fun μ' S' H' i e r ok hi => ?_⟩
  · obtain ⟨vs, h1, h2⟩ := key μ' S' H' e r ok
    obtain ⟨v, e1, e2⟩ := h2.get hi
    refine ⟨⟨vs, v, .of h1, e1⟩, fun x H2 y => ?_⟩
    obtain ⟨rfl, y⟩ := y
    have : v = x := Option.some.inj (e1.symm.trans (y vs (.of h1)))
    subst this
    exact ⟨Ext.refl, r, .inl e2⟩
  · obtain ⟨vs, h1, h2⟩ := key μ' S' H' e r ok
    exact ⟨vs, .of h1, by rw [← h2.length]; exact hi⟩
theorem it_rol {μ1 : List Addr} {H1 : Hp} {a : Addr} {xs : List D} {vs : List V} (h : RoL X.K H1 a vs) (hr : Reps X.K μ1 H1 xs vs) : ItOk (gX X ca) t (Itl X.K a) xs .free μ1 H1 := by
  refine ⟨fun i d μ' S' H' e r ok hi => ?_, fun μ' S' H' i e r ok hi => ⟨vs, (e.rols a vs h).sq, by rw [← hr.length]; exact hi⟩⟩
  obtain ⟨v, e1, e2⟩ := (hr.mono e).get hi
  refine ⟨⟨vs, v, (e.rols a vs h).sq, e1⟩, fun x H2 y => ?_⟩
  obtain ⟨rfl, y⟩ := y
  have : v = x := Option.some.inj (e1.symm.trans (y vs (e.rols a vs h).sq))
  subst this
  exact ⟨Ext.refl, r, .inl e2⟩
theorem it_tup {μ1 : List Addr} {H1 : Hp} {a : Addr} {xs : List D} {vs : List V} (h : TupAt H1 a vs) (hr : Reps X.K μ1 H1 xs vs) : ItOk (gX X ca) t (Itt X.K a) xs .free μ1 H1 := by
  refine ⟨fun i d μ' S' H' e r ok hi => ?_, fun μ' S' H' i e r ok hi => ⟨vs, (e.tups a vs h).sq, by rw [← hr.length]; exact hi⟩⟩
  obtain ⟨v, e1, e2⟩ := (hr.mono e).get hi
  refine ⟨⟨vs, v, (e.tups a vs h).sq, e1⟩, fun x H2 y => ?_⟩
  obtain ⟨rfl, y⟩ := y
  have : v = x := Option.some.inj (e1.symm.trans (y vs (e.tups a vs h).sq))
  subst this
  exact ⟨Ext.refl, r, .inl e2⟩
theorem rangeL_at : ∀ (n i : Nat) (lo : Int), (rangeL lo n)[i]? = if i < n then some (.int (lo + i)) else none
  | 0, i, lo => by simp [rangeL]
  | n + 1, 0, lo => by simp [rangeL]
  | n + 1, i + 1, lo => by
    show (rangeL (lo + 1) n)[i]? = _
    rw [rangeL_at n i (lo + 1)]
    by_cases h : i < n
    · rw [if_pos h, if_pos (by omega)]
      congr 2
      push_cast
      omega
    · rw [if_neg h, if_neg (by omega)]
theorem rangeL_len (n : Nat) : ∀ lo, (rangeL lo n).length = n := by
  induction n with
  | zero => intro lo; rfl
  | succ n ih => intro lo; exact congrArg (· + 1) (ih (lo + 1))
theorem it_range {μ1 : List Addr} {H1 : Hp} {lo : Int} {n : Nat} : ItOk (gX X ca) t (Itr lo n) (rangeL lo n) .free μ1 H1 := by
  refine ⟨fun i d μ' S' H' e r ok hi => ?_, fun μ' S' H' i e r ok hi => by rw [rangeL_len] at hi; exact hi⟩
  rw [rangeL_at] at hi
  by_cases h : i < n
  · rw [if_pos h] at hi
    cases hi
    refine ⟨h, fun x H2 y => ?_⟩
    obtain ⟨rfl, rfl⟩ := y
    exact ⟨Ext.refl, r, .inl rfl⟩
  · rw [if_neg h] at hi
    cases hi
theorem range3_at : ∀ (n i : Nat) (lo c : Int), (range3 lo c n)[i]? = if i < n then some (.int (lo + i * c)) else none
  | 0, i, lo, c => by simp [range3]
  | n + 1, 0, lo, c => by simp [range3]
  | n + 1, i + 1, lo, c => by
    show (range3 (lo + c) c n)[i]? = _
    rw [range3_at n i (lo + c) c]
    by_cases h : i < n
    · rw [if_pos h, if_pos (by omega)]
      congr 2
      push_cast
      rw [Int.add_mul]
      omega
    · rw [if_neg h, if_neg (by omega)]
theorem range3_len (n : Nat) (c : Int) : ∀ lo, (range3 lo c n).length = n := by
  induction n with
  | zero => intro lo; rfl
  | succ n ih => intro lo; exact congrArg (· + 1) (ih (lo + c))
theorem it_range3 {μ1 : List Addr} {H1 : Hp} {lo c : Int} {n : Nat} : ItOk (gX X ca) t (Itc lo c n) (range3 lo c n) .free μ1 H1 := by
  refine ⟨fun i d μ' S' H' e r ok hi => ?_, fun μ' S' H' i e r ok hi => by rw [range3_len] at hi; exact hi⟩
  rw [range3_at] at hi
  by_cases h : i < n
  · rw [if_pos h] at hi
    cases hi
    refine ⟨h, fun x H2 y => ?_⟩
    obtain ⟨rfl, rfl⟩ := y
    exact ⟨Ext.refl, r, .inl rfl⟩
  · rw [if_neg h] at hi
    cases hi
theorem it_str {μ1 : List Addr} {H1 : Hp} {z : Str} : ItOk (gX X ca) t (Its z) (z.cps.toList.map fun c => D.str ⟨#[c]⟩) .free μ1 H1 := by
  refine ⟨fun i d μ' S' H' e r ok hi => ?_, fun μ' S' H' i e r ok hi => by rw [List.length_map] at hi; exact hi⟩
  rw [List.getElem?_map] at hi
  obtain ⟨c, ec, rfl⟩ := Option.map_eq_some_iff.mp hi
  have ec' : z.cps[i]? = some c := by simpa using ec
  refine ⟨(Array.getElem?_eq_some_iff.mp ec').1, fun x H2 y => ?_⟩
  obtain ⟨rfl, c', e1, rfl⟩ := y
  rw [ec'] at e1
  cases e1
  exact ⟨Ext.refl, r, .inl rfl⟩
theorem pi_strV {tg : Expr} {pins : List (Addr × Obj)} {σ : L2.St} {H : Hp} {s : Shared} {x : Str} {v : Value} {R : It → Hp → Prop} (I : Inv X pins σ H s) (rx : RelV (.str x) v) (q : R (Its x) H) : wpAny (model X.prog X.w) X.A (pyIter v) (PIE X pins σ tg R) X.xe s := by
  obtain ⟨t, rfl⟩ := rx
  cases ha : x.cps.all (· < 128)
  · exact wpAny_pyIter_wide ha (pi_one (tk := s.toks) I _ (turn_str _ x t "str_iterator" (.inr rfl)) ⟨_, Heap.get?_push_size _ rfl, rfl, rfl⟩ q)
  · exact wpAny_pyIter_ascii ha (pi_one (tk := s.toks) I _ (turn_str _ x t "str_ascii_iterator" (.inl rfl)) ⟨_, Heap.get?_push_size _ rfl, rfl, rfl⟩ q)
/-- over a value: a list, a tuple, a text -/
theorem i_val {tg l : Expr} {il : IE} (hl : PE X l (tE (gX X ca) E F il)) : PI X tg l (tI (gX X ca) E F t (.val il)) := by
  refine ⟨fun pins s σ H R I q => ?_⟩
  obtain ⟨μ, ρ, S, r, sl, p⟩ := q
  have p : Post _ E ((evE F il ρ S).bind fun x S1 => match walkOf S1 x with | some xs => .ok (xs, srcOf x xs) S1 | none => .bad) μ H _ := p
  refine thn (hl.run pins s σ H (fun x H1 => ∃ μ1 S1 d xs, Rel (gX X ca) μ1 S1 H1 ∧ Rep X.K μ1 H1 d x ∧ walkOf S1 d = some xs ∧ ∀ J, ItOk (gX X ca) t J xs (srcOf d xs) μ1 H1 → R J H1) I (one r sl p fun x H1 d S1 μ1 e1 r1 hx p1 => ?_))
    fun v s1 ⟨x, H1, I1, rx, μ1, S1, d, xs, r1, hx, hw, q⟩ => ?_
  · cases hw : walkOf S1 d with
    | none => rw [hw] at p1; exact p1.elim
    | some xs =>
      rw [hw] at p1
      exact ⟨μ1, S1, d, xs, r1, hx, hw, Post.okI (show Post _ E (.ok (xs, srcOf d xs) S1) μ1 H1 _ from p1) r1⟩
  · have lists : ∀ a vs, x = .ref a → SqL X.K H1 a vs → R (Itl X.K a) H1 → wpAny (model X.prog X.w) X.A (pyIter v) (PIE X pins σ tg R) X.xe s1 := fun a vs ex hs hR => by
      subst ex
      cases rx
      obtain ⟨its, rv, pl, hz⟩ := I1.list hs
      refine wpAny_pyIter_list pl.isList ⟨s1.heap.objs.size, [s1.heap.objs.size], _, _, H1, rfl, I1.kept (t' := s1.toks) (fun b o e => Heap.get?_push_of_some _ e), turn_list a _, ⟨_, Heap.get?_push_size _ rfl, rfl, rfl⟩, fun b hb => ?_, hR⟩
      obtain rfl : b = s1.heap.objs.size := by simpa using hb
      exact I1.fpOk (Nat.le_refl _) (I1.hok.fresh (Nat.le_refl _))
    cases d with
    | str z =>
      obtain rfl : x = .str z := hx
      cases hw
      exact pi_strV I1 rx (q _ it_str)
    | tup ys =>
      obtain ⟨a, vs, rfl, h1, h2⟩ := hx
      cases hw
      cases rx
      obtain ⟨its, rv, pl, hz⟩ := I1.tuple h1.sq
      refine wpAny_pyIter_tuple (show s1.heap.IsTuple a its.toArray from pl) ⟨s1.heap.objs.size, [s1.heap.objs.size], _, _, H1, rfl, I1.kept (t' := s1.toks) (fun b o e => Heap.get?_push_of_some _ e), turn_tuple a _, ⟨_, Heap.get?_push_size _ rfl, rfl, rfl⟩, fun b hb => ?_, q _ (it_tup h1 h2)⟩
      obtain rfl : b = s1.heap.objs.size := by simpa using hb
      exact I1.fpOk (Nat.le_refl _) (I1.hok.fresh (Nat.le_refl _))
    | rol ys =>
      obtain ⟨a, vs, rfl, h1, h2⟩ := hx
      cases hw
      exact lists a vs rfl h1.sq (q _ (it_rol h1 h2))
    | loc n =>
      have hw : lstAt S1 n = some xs := hw
      have hw0 := hw
      unfold lstAt at hw
      split at hw
      · rename_i zs hs
        cases hw
        obtain ⟨a, vs, ha, rfl, h1, h2⟩ := r1.lstAt hx hs
        exact lists a vs rfl (.of h1) (q _ (it_list (S1 := S1) ha))
      · cases hw
    | _ => cases hw
end
end Iv

set_option maxRecDepth 10000
/-! Iv13: range, enumerate, zip in a for. -/
namespace Iv
open PySem PySem.Spec PyProof.Rows L2
section
variable {X : Cx} {ca : Nat → Addr} {E : XK} {F : Fns} {t : IT}
theorem i_range {tg : Expr} {es : List Expr} {ies : IEs} {p pos : Pos} (hg : Gl X "range") (hm : X.mg "range" = none) (ha : PA X es (tEs (gX X ca) E F ies)) (hl : 0 < es.length ∧ es.length < 4) (hs : es.all nst = true) (hk : ∀ ρ S ds S1, evEs F ies ρ S = .ok ds S1 → ds.length = es.length) :
    PI X tg (.Call (.Name "range" p) es [] pos) (tI (gX X ca) E F t (.range ies)) := by
  have key : ∀ (σ : L2.St) (H : Hp) (R : It → Hp → Prop), tI (gX X ca) E F t (.range ies) σ H R → ∃ μ ρ S, Rel (gX X ca) μ S H ∧ Slots X.K μ H σ ρ ∧ Post (gX X ca) E (evEs F ies ρ S) μ H fun ds _ μ1 H1 => ds.length = es.length ∧ ∃ xs, rangeOf ds = some xs ∧ ∀ J, ItOk (gX X ca) t J xs .free μ1 H1 → R J H1 := fun σ H R q => by
    obtain ⟨μ, ρ, S, r, sl, p⟩ := q
    have p : Post _ E ((evEs F ies ρ S).bind fun ds S1 => match rangeOf ds with | some xs => .ok (xs, Src.free) S1 | none => .bad) μ H _ := p
    refine ⟨μ, ρ, S, r, sl, ?_⟩
    cases ho : evEs F ies ρ S with
    | ok ds S1 =>
      rw [ho] at p
      have p : Post _ E (match rangeOf ds with | some xs => .ok (xs, Src.free) S1 | none => .bad) μ H _ := p
      intro μ1 H1 e1 r1
      cases hr : rangeOf ds with
      | none => rw [hr] at p; exact p.elim
      | some xs =>
        rw [hr] at p
        exact ⟨hk _ _ _ _ ho, xs, rfl, p μ1 H1 e1 r1⟩
    | ex c fs S1 => rw [ho] at p; exact p
    | bad => rw [ho] at p; exact p
  match es, ha, hl, hs, hk, key with
  | [a], ha, hl, hs, hk, key =>
    have q := Bool.and_eq_true_iff.mp hs
    refine ⟨fun pins s σ H R I q0 => (pi_range1 hg hm ha (star_cons q.1)).run pins s σ H R I ?_⟩
    obtain ⟨μ, ρ, S, r, sl, p⟩ := key _ _ _ q0
    refine ⟨μ, ρ, S, r, sl, p.imp fun ds S1 μ1 H1 e1 r1 ⟨hlen, xs, hr, q⟩ vs hv => ?_⟩
    match ds, hlen, hr, hv with
    | [d], _, hr, hv =>
      obtain ⟨v, rfl, h1⟩ := args1 hv
      cases d with
      | int j =>
        obtain rfl : v = .int j := h1
        have hr : (if small62 j = true then some (rangeL 0 j.toNat) else none) = some xs := hr
        by_cases c : small62 j = true
        · rw [if_pos c] at hr
          cases hr
          have c := of_decide_eq_true (p := -(2 ^ 62) ≤ j ∧ j < 2 ^ 62) c
          exact ⟨j, rfl, c.1, c.2, q _ it_range⟩
        · rw [if_neg c] at hr
          cases hr
      | _ => cases hr
  | [a, b], ha, hl, hs, hk, key =>
    have q := Bool.and_eq_true_iff.mp hs
    have qb := Bool.and_eq_true_iff.mp q.2
    refine ⟨fun pins s σ H R I q0 => (pi_range2 hg hm ha (by rw [star_cons q.1, star_cons qb.1]; rfl) (star_cons qb.1)).run pins s σ H R I ?_⟩
    obtain ⟨μ, ρ, S, r, sl, p⟩ := key _ _ _ q0
    refine ⟨μ, ρ, S, r, sl, p.imp fun ds S1 μ1 H1 e1 r1 ⟨hlen, xs, hr, q⟩ vs hv => ?_⟩
    match ds, hlen, hr, hv with
    | [d, d'], _, hr, hv =>
      obtain ⟨v, v', rfl, h1, h2⟩ := args2 hv
      cases d with
      | int i =>
        cases d' with
        | int j =>
          obtain rfl : v = .int i := h1
          obtain rfl : v' = .int j := h2
          have hr : (if (small62 i && small62 j) = true then some (rangeL i (j - i).toNat) else none) = some xs := hr
          by_cases c : (small62 i && small62 j) = true
          · rw [if_pos c] at hr
            cases hr
            have c := Bool.and_eq_true_iff.mp c
            have c1 := of_decide_eq_true (p := -(2 ^ 62) ≤ i ∧ i < 2 ^ 62) c.1
            have c2 := of_decide_eq_true (p := -(2 ^ 62) ≤ j ∧ j < 2 ^ 62) c.2
            exact ⟨i, j, rfl, ⟨c1.1, c1.2, c2.1, c2.2⟩, q _ it_range⟩
          · rw [if_neg c] at hr
            cases hr
        | _ => cases hr
      | _ => cases d' <;> cases hr
  | [a, b, c0], ha, hl, hs, hk, key =>
    have q := Bool.and_eq_true_iff.mp hs
    refine ⟨fun pins s σ H R I q0 => (pi_range3 hg hm ha (star_cons q.1) (star_any q.2)).run pins s σ H R I ?_⟩
    obtain ⟨μ, ρ, S, r, sl, p⟩ := key _ _ _ q0
    refine ⟨μ, ρ, S, r, sl, p.imp fun ds S1 μ1 H1 e1 r1 ⟨hlen, xs, hr, q⟩ vs hv => ?_⟩
    match ds, hlen, hr, hv with
    | [d, d', d''], _, hr, hv =>
      obtain ⟨v, vr, rfl, h1, hv2⟩ := hv
      obtain ⟨v', v'', rfl, h2, h3⟩ := args2 hv2
      cases d with
      | int i =>
        cases d' with
        | int j =>
          cases d'' with
          | int k =>
            obtain rfl : v = .int i := h1
            obtain rfl : v' = .int j := h2
            obtain rfl : v'' = .int k := h3
            have hr : (if k ≠ 0 ∧ k.natAbs < 1073741824 ∧ Builtin.Range.small i j k = true then some (range3 i k (Builtin.Range.rangeSize i j k).toNat) else none) = some xs := hr
            by_cases c : k ≠ 0 ∧ k.natAbs < 1073741824 ∧ Builtin.Range.small i j k = true
            · rw [if_pos c] at hr
              cases hr
              exact ⟨i, j, k, _, rfl, ⟨c.1, c.2.1, c.2.2, PyProof.Rows.rangeSize_toNat i j k⟩, q _ it_range3⟩
            · rw [if_neg c] at hr
              cases hr
          | _ => cases hr
        | _ => cases hr
      | _ => cases hr
  | [], _, hl, _, _, _ => exact absurd hl.1 (by simp)
  | _ :: _ :: _ :: _ :: _, _, hl, _, _, _ => exact absurd hl.2 (by simp)

/-! ### what stays a walk's list -/
theorem src_at {μ1 μ' : List Addr} {H1 H' : Hp} {S1 S' : Store} {d : D} {x : V} {xs : List D} (r1 : Rel (gX X ca) μ1 S1 H1) (hx : Rep X.K μ1 H1 d x) (hs : seqOf S1 d = some xs) (e : Ext X.K μ1 μ' H1 H') (r : Rel (gX X ca) μ' S' H') (ok : (srcOf d xs).ok S' = true) :
    seqOf S' d = some xs := by
  cases d with
  | loc n => exact of_decide_eq_true (p := lstAt S' n = some xs) ok
  | tup ys => exact hs
  | rol ys => exact hs
  | non => cases hs
  | bl _ => cases hs
  | int _ => cases hs
  | str _ => cases hs
theorem enumL_at : ∀ (xs : List D) (i : Nat) (k : Int), (enumL k xs)[i]? = (xs[i]?).map fun x => .tup [.int (k + i), x]
  | [], i, k => by simp [enumL]
  | x :: r, 0, k => by simp [enumL]
  | x :: r, i + 1, k => by
    show (enumL (k + 1) r)[i]? = _
    rw [enumL_at r i (k + 1)]
    have : k + 1 + (i : Int) = k + ((i + 1 : Nat) : Int) := by omega
    rw [this]
    rfl
theorem enumL_len : ∀ (xs : List D) (k : Int), (enumL k xs).length = xs.length
  | [], _ => rfl
  | _ :: r, k => congrArg (· + 1) (enumL_len r (k + 1))
theorem zipL_at : ∀ (xs ys : List D) (i : Nat), (zipL xs ys)[i]? = match xs[i]?, ys[i]? with | some x, some y => some (.tup [x, y]) | _, _ => none
  | [], ys, i => by simp [zipL]
  | x :: xs, [], i => by cases h : (x :: xs)[i]? <;> simp [zipL]
  | x :: xs, y :: ys, 0 => by simp [zipL]
  | x :: xs, y :: ys, i + 1 => by
    show (zipL xs ys)[i]? = _
    rw [zipL_at xs ys i]
    rfl
theorem zipL_len : ∀ (xs ys : List D), (zipL xs ys).length = min xs.length ys.length
  | [], ys => by simp [zipL]
  | x :: xs, [] => by simp [zipL]
  | x :: xs, y :: ys => by
    show (zipL xs ys).length + 1 = _
    rw [zipL_len xs ys]
    simp only [List.length_cons]
    omega
/-- a new pair, to be unpacked -/
theorem pair_new {μ : List Addr} {H : Hp} {T : Addr} {x y : V} {d d' : D} {ts : ITs} {S : Store} (r : Rel (gX X ca) μ S H) (n : H T = none) (hx : Rep X.K μ H d x) (hy : Rep X.K μ H d' y) :
    Ext X.K μ μ H (upd H T (.tup [x, y])) ∧ Rel (gX X ca) μ S (upd H T (.tup [x, y])) ∧ RepU X.K μ (upd H T (.tup [x, y])) (.tup ts) (.tup [d, d']) (.ref T) := by
  have e : Ext X.K μ μ H (upd H T (.tup [x, y])) := Ext.obj n
  exact ⟨e, r.obj n, .inr ⟨⟨ts, rfl⟩, [d, d'], T, [x, y], rfl, rfl, .inl (.inl upd_same), ⟨x, [y], rfl, hx.mono e, Reps.one (hy.mono e)⟩⟩⟩
end
end Iv

set_option maxRecDepth 10000
/-! Iv14: targets; list comprehensions. -/
namespace Iv
open PySem PySem.Spec PyProof.Rows L2
theorem wipe_slots {K : PySem.W.Frag} {μ : List Addr} {H : Hp} {σ : L2.St} {ρ : Env} (s : Slots K μ H σ ρ) : ∀ vs : List Nat, Slots K μ H (wipe σ vs) (wipeE ρ vs)
  | [] => s
  | v :: vs => by
    have q := wipe_slots s vs
    refine ⟨by simpa [wipe, wipeE] using q.1, fun i d h => ?_⟩
    have h : ((wipeE ρ vs).set v none)[i]? = some (some d) := h
    show ∃ w, ((wipe σ vs).set v none)[i]? = some (some w) ∧ _
    by_cases e : v = i
    · subst e
      by_cases hv : v < (wipeE ρ vs).length
      · rw [List.getElem?_set_self hv] at h; cases h
      · rw [List.getElem?_eq_none (by simpa using hv)] at h; cases h
    · rw [List.getElem?_set_ne e] at h
      rw [List.getElem?_set_ne e]
      exact q.2 i d h
theorem wipe_in {σ : L2.St} : ∀ {vs : List Nat} {i : Nat}, i ∈ vs → i < σ.length → (wipe σ vs)[i]? = some none
  | v :: vs, i, h, hl => by
    show ((wipe σ vs).set v none)[i]? = some none
    by_cases e : v = i
    · subst e
      rw [List.getElem?_set_self (by rw [wipe_length]; exact hl)]
    · rw [List.getElem?_set_ne e]
      rcases List.mem_cons.mp h with h | h
      · exact absurd h.symm e
      · exact wipe_in h hl
theorem wipe_same {σ σ2 : L2.St} {vs : List Nat} (hl : σ2.length = σ.length) (h : ∀ i, i ∉ vs → σ2[i]? = (wipe σ vs)[i]?) : wipe σ2 vs = wipe σ vs := by
  refine List.ext_getElem? fun i => ?_
  by_cases hi : i ∈ vs
  · by_cases hlt : i < σ.length
    · rw [wipe_in hi hlt, wipe_in hi (by rw [hl]; exact hlt)]
    · rw [List.getElem?_eq_none (by rw [wipe_length, hl]; omega), List.getElem?_eq_none (by rw [wipe_length]; omega)]
  · rw [wipe_out hi, h i hi]
def gB (g : G) (t : IT) : TG := fun v σ H Q => ∃ μ ρ S d ρ', Rel g μ S H ∧ Slots g.K μ H σ ρ ∧ RepU g.K μ H t d v ∧ bindT t d ρ = some ρ' ∧ ∀ σ', Slots g.K μ H σ' ρ' → σ'.length = σ.length → (∀ i, i ∉ slotsT t → σ'[i]? = σ[i]?) → Q σ' H
def gBs (g : G) (ts : ITs) : TGs := fun vs σ H Q => ∃ μ ρ S ds ρ', Rel g μ S H ∧ Slots g.K μ H σ ρ ∧ Reps g.K μ H ds vs ∧ bindTs ts ds ρ = some ρ' ∧ ∀ σ', Slots g.K μ H σ' ρ' → σ'.length = σ.length → (∀ i, i ∉ slotsTs ts → σ'[i]? = σ[i]?) → Q σ' H
section
variable {X : Cx} {ca : Nat → Addr} {E : XK} {F : Fns} {g : G}
theorem PG.imp {e : Expr} {t t' : TG} (h : PG X e t) (i : ∀ v σ H Q, t' v σ H Q → t v σ H Q) : PG X e t' := ⟨fun pins s σ H v u Q I r q => h.run pins s σ H v u Q I r (i v σ H Q q)⟩
theorem PGs.imp {e : List Expr} {t t' : TGs} (h : PGs X e t) (i : ∀ v σ H Q, t' v σ H Q → t v σ H Q) : PGs X e t' := ⟨fun pins s σ H v u Q I r q => h.run pins s σ H v u Q I r (i v σ H Q q)⟩
theorem b_name {i : Nat} {x : Str} {pos : Pos} (h : PG X (.Name x pos) (gName i)) : PG X (.Name x pos) (gB g (.nm i)) := by
  refine PG.imp h fun v σ H Q q => ?_
  obtain ⟨μ, ρ, S, d, ρ', r, sl, hv, hb, q⟩ := q
  have hb : (if i < ρ.length then some (ρ.set i (some d)) else none) = some ρ' := hb
  by_cases c : i < ρ.length
  · rw [if_pos c] at hb
    cases hb
    rcases hv with hv | ⟨⟨ts, e⟩, _⟩
    · refine q _ (sl.set i hv) (by simp) fun j hj => ?_
      rw [List.getElem?_set_ne (fun e => hj (by rw [← e]; exact List.mem_cons_self))]
    · cases e
  · rw [if_neg c] at hb
    cases hb
theorem b_nil : PGs X [] (gBs g .nil) := by
  refine PGs.imp pgs_nil fun vs σ H Q q => ?_
  obtain ⟨μ, ρ, S, ds, ρ', r, sl, hv, hb, q⟩ := q
  cases ds with
  | nil =>
    obtain rfl : vs = [] := hv
    cases hb
    exact ⟨rfl, q σ sl rfl fun _ _ => rfl⟩
  | cons d ds => cases hb
theorem b_cons {e : Expr} {es : List Expr} {t : IT} {ts : ITs} (h1 : PG X e (gB g t)) (h2 : PGs X es (gBs g ts)) (h : (assignEach (e :: es) X.env).map (·.2) = assign e X.env :: (assignEach es X.env).map (·.2)) : PGs X (e :: es) (gBs g (.cons t ts)) := by
  refine PGs.imp (pgs_cons h1 h2 h) fun vs σ H Q q => ?_
  obtain ⟨μ, ρ, S, ds, ρ', r, sl, hv, hb, q⟩ := q
  cases ds with
  | nil => cases hb
  | cons d ds =>
    obtain ⟨v, vr, rfl, hv1, hv2⟩ := hv
    have hb : (bindT t d ρ).bind (fun ρ' => bindTs ts ds ρ') = some ρ' := hb
    obtain ⟨ρ1, hb1, hb2⟩ := Option.bind_eq_some_iff.mp hb
    refine ⟨v, vr, rfl, μ, ρ, S, d, ρ1, r, sl, .inl hv1, hb1, fun σ1 s1 l1 k1 => ?_⟩
    refine ⟨μ, ρ1, S, ds, ρ', r, s1, hv2, hb2, fun σ2 s2 l2 k2 => q σ2 s2 (l2.trans l1) fun i hi => ?_⟩
    have hi : i ∉ slotsT t ++ slotsTs ts := hi
    rw [List.mem_append, not_or] at hi
    rw [k2 i hi.2, k1 i hi.1]
theorem bindTs_len : ∀ {ts : ITs} {ds : List D} {ρ ρ' : Env}, bindTs ts ds ρ = some ρ' → ds.length = (slotsTs.len ts)
  | .nil, [], _, _, _ => rfl
  | .cons t ts, d :: ds, ρ, ρ', h => by
    obtain ⟨ρ1, _, h2⟩ := Option.bind_eq_some_iff.mp (show (bindT t d ρ).bind (fun ρ' => bindTs ts ds ρ') = some ρ' from h)
    exact congrArg (· + 1) (bindTs_len h2)
  | .nil, _ :: _, _, _, h => by cases h
  | .cons _ _, [], _, _, h => by cases h
theorem b_tup (hc : X.calm = true) {es : List Expr} {k : Nat} {ts : ITs} {pos : Pos} (h : PGs X es (gBs g ts)) (hn : (assignEach es X.env).length = slotsTs.len ts) (hst : (assignEach es X.env).findIdx? (·.1) = none) (hK : g.K = X.K) : PG X (.Tuple es k pos) (gB g (.tup ts)) := by
  refine PG.imp (pg_tup hc h hn hst) fun v σ H Q q => ?_
  obtain ⟨μ, ρ, S, d, ρ', r, sl, hv, hb, q⟩ := q
  cases d with
  | tup ds =>
    have hb : bindTs ts ds ρ = some ρ' := hb
    have key : ∃ a vs, v = .ref a ∧ SqT X.K H a vs ∧ Reps g.K μ H ds vs := by
      rw [← hK]
      rcases hv with ⟨a, vs, rfl, h1, h2⟩ | ⟨_, ds', a, vs, e, rfl, h1, h2⟩
      · exact ⟨a, vs, rfl, h1.sq, h2⟩
      · cases e
        exact ⟨a, vs, rfl, h1, h2⟩
    obtain ⟨a, vs, rfl, h1, h2⟩ := key
    exact ⟨a, vs, rfl, h1, by rw [← h2.length]; exact bindTs_len hb, μ, ρ, S, ds, ρ', r, sl, h2, hb, q⟩
  | _ => cases hb

/-! ### a comprehension's tests -/
def tC (g : G) (E : XK) (F : Fns) (c : IO) : TT := fun σ H Q => ∃ μ ρ S, Rel g μ S H ∧ Slots g.K μ H σ ρ ∧ Post g E (evC F c ρ S) μ H fun k _ _ H' => Q k H'
theorem PTs.imp {e : List Expr} {t t' : TT} (h : PTs X e t) (i : ∀ σ H Q, t' σ H Q → t σ H Q) : PTs X e t' := ⟨fun pins s σ H Q I q => h.run pins s σ H Q I (i σ H Q q)⟩
theorem c_nil : PTs X [] (tC (gX X ca) E F .none) := by
  refine PTs.imp pts_nil fun σ H Q q => ?_
  obtain ⟨μ, ρ, S, r, sl, p⟩ := q
  exact Post.okI (show Post _ E (.ok true S) μ H _ from p) r
theorem c_one {c : Expr} {ic : IE} (h : PT X c (tT (gX X ca) E F ic)) : PTs X [c] (tC (gX X ca) E F (.some ic)) := PTs.imp (pts_one h) fun σ H Q q => q
/-! ### the turns -/
theorem Post.anyE {α : Type} {E : XK} {o : Out α} {a : α} {S' : Store} {μ : List Addr} {H : Hp} {R : α → Store → List Addr → Hp → Prop} (e : o = .ok a S') (p : ∀ μ' H', Ext g.K μ μ' H H' → Rel g μ' S' H' → R a S' μ' H') : Post g E o μ H R := by
  subst e
  exact p
def turnC (F : Fns) (e : IE) (t : IT) (c : IO) (ρ : Env) (x : D) (S2 : Store) : Out (Option D) := match bindT t x (wipeE ρ (slotsT t)) with
      | some ρ' => (evC F c ρ' S2).bind fun k S3 => if k then (evE F e ρ' S3).bind fun d S4 => .ok (some d) S4 else .ok none S3
      | none => .bad
theorem lc_read {ie : IE} {t : IT} {it : II} {c : IO} {σ : L2.St} {H : Hp} {Q : VK} (h : tE (gX X ca) E F (.lc ie t it c) σ H Q) :
    tLc (tI (gX X ca) E F t it) (gB (gX X ca) t) (tC (gX X ca) E0 F c) (tE (gX X ca) E0 F ie) (slotsT t) σ H Q := by
  obtain ⟨μ, ρ, S, r, sl, p⟩ := h
  have p : Post _ E ((evI F it ρ S).bind fun p S1 => (loopC p.2 (turnC F ie t c ρ) S1.length p.1 (S1 ++ [.lst []])).bind fun _ S5 => .ok (D.loc S1.length) S5) μ H _ := p
  refine ⟨μ, ρ, S, r, sl, p.bind.imp ?_⟩
  intro ps S1 μ1 H1 e1 r1 p1 J ok Dn hD
  obtain ⟨items, src⟩ := ps
  have p1 : Post _ E ((loopC src (turnC F ie t c ρ) S1.length items (S1 ++ [.lst []])).bind fun _ S5 => .ok (D.loc S1.length) S5) μ1 H1 _ := p1
  have e0 : Ext X.K μ1 (μ1 ++ [Dn]) H1 (upd H1 Dn (.lst [])) := Ext.new hD
  have r0 : Rel (gX X ca) (μ1 ++ [Dn]) (S1 ++ [.lst []]) (upd H1 Dn (.lst [])) := r1.new hD ⟨[], upd_same, rfl⟩
  have hn0 : (μ1 ++ [Dn])[S1.length]? = some Dn := by rw [← r1.len]; simp
  refine ⟨fun i m H => m = items.length - i ∧ ∃ μ' S', Ext X.K (μ1 ++ [Dn]) μ' (upd H1 Dn (.lst [])) H ∧ Rel (gX X ca) μ' S' H ∧
    Post (gX X ca) E ((loopC src (turnC F ie t c ρ) S1.length (items.drop i) S').bind fun _ S5 => .ok (D.loc S1.length) S5) μ' H fun d _ μ' H' => ∀ v, Rep X.K μ' H' d v → Q v H',
    ⟨items.length, by simp, μ1 ++ [Dn], S1 ++ [.lst []], Ext.refl, r0, by rw [List.drop_zero]; exact Post.pre e0 p1⟩, ?_⟩
  rintro i m H2 ⟨rfl, μ2, S2, e2, r2, p2⟩
  have hx : Ext X.K μ1 μ2 H1 H2 := e0.trans e2
  cases hd : items.drop i with
  | nil =>
    rw [hd] at p2
    have hi : items.length ≤ i := List.drop_eq_nil_iff.mp hd
    have p2 : Post _ E ((if src.ok S2 = true then Out.ok () S2 else .bad).bind fun _ S5 => .ok (D.loc S1.length) S5) μ2 H2 _ := p2
    by_cases k : src.ok S2 = true
    · rw [if_pos k] at p2
      refine .inl ⟨?_, Post.okI (show Post _ E (.ok (D.loc S1.length) S2) μ2 H2 _ from p2) r2 _ ⟨Dn, e2.at_ hn0, rfl⟩⟩
      exact ok.stop μ2 S2 H2 i hx r2 k hi
    · rw [if_neg k] at p2
      exact p2.elim
  | cons x xs =>
    rw [hd] at p2
    have hi : i < items.length := by
      have : (items.drop i).length ≠ 0 := by rw [hd]; simp
      rw [List.length_drop] at this
      omega
    have hxi : items[i]? = some x := by
      have : (items.drop i)[0]? = some x := by rw [hd]; rfl
      simpa using this
    have hdx : items.drop (i + 1) = xs := by
      rw [← List.drop_drop, hd] <;> rfl
    have p2 : Post _ E ((if src.ok S2 = true then
      match turnC F ie t c ρ x S2 with
      | .ok (some d) S' => (gc S2 d S').bind fun d' S'' => match S''[S1.length]? with
        | some (.lst acc) => if acc.length < sizeLine then loopC src (turnC F ie t c ρ) S1.length xs (S''.set S1.length (.lst (acc ++ [d']))) else .bad
        | _ => .bad
      | .ok none S' => (gc S2 .non S').bind fun _ S'' => loopC src (turnC F ie t c ρ) S1.length xs S''
      | _ => .bad
    else .bad).bind fun _ S5 => .ok (D.loc S1.length) S5) μ2 H2 _ := p2
    by_cases k : src.ok S2 = true
    · rw [if_pos k] at p2
      obtain ⟨hgo, hyl⟩ := ok.go i x μ2 S2 H2 hx r2 k hxi
      refine .inr ⟨hgo, fun H' => ∃ μ' S', Ext X.K (μ1 ++ [Dn]) μ' (upd H1 Dn (.lst [])) H' ∧ Rel (gX X ca) μ' S' H' ∧
        Post (gX X ca) E ((loopC src (turnC F ie t c ρ) S1.length xs S').bind fun _ S5 => .ok (D.loc S1.length) S5) μ' H' fun d _ μ' H' => ∀ v, Rep X.K μ' H' d v → Q v H',
        fun H' q => ⟨items.length - (i + 1), by omega, rfl, by rw [hdx]; exact q⟩, fun v H3 y => ?_⟩
      obtain ⟨e3, r3, hv⟩ := hyl v H3 y
      cases hb : bindT t x (wipeE ρ (slotsT t)) with
      | none =>
        have ht : turnC F ie t c ρ x S2 = .bad := by unfold turnC; rw [hb]
        rw [ht] at p2
        exact p2.elim
      | some ρ' =>
        refine ⟨μ2, wipeE ρ (slotsT t), S2, x, ρ', r3, (wipe_slots ((((sl.mono e1).mono hx)).mono e3) _), hv, hb, fun σ2 s2 l2 k2 => ⟨wipe_same (by rw [l2, wipe_length]) k2, ?_⟩⟩
        have ht : turnC F ie t c ρ x S2 = (evC F c ρ' S2).bind fun k S3 => if k then (evE F ie ρ' S3).bind fun d S4 => .ok (some d) S4 else .ok none S3 := by unfold turnC; rw [hb]
        rw [ht] at p2
        cases hcv : evC F c ρ' S2 with
        | ok kk S3 =>
          rw [hcv] at p2
          refine ⟨μ2, ρ', S2, r3, s2, Post.anyE hcv fun μ4 H4 e4 r4 => ?_⟩
          have p2 : Post _ E (Out.bind (match (if kk = true then (evE F ie ρ' S3).bind fun d S4 => .ok (some d) S4 else .ok none S3) with
            | .ok (some d) S' => (gc S2 d S').bind fun d' S'' => match S''[S1.length]? with
              | some (.lst acc) => if acc.length < sizeLine then loopC src (turnC F ie t c ρ) S1.length xs (S''.set S1.length (.lst (acc ++ [d']))) else .bad
              | _ => .bad
            | .ok none S' => (gc S2 .non S').bind fun _ S'' => loopC src (turnC F ie t c ρ) S1.length xs S''
            | _ => .bad) fun _ S5 => .ok (D.loc S1.length) S5) μ2 H2 _ := p2
          cases kk with
          | false =>
            refine iteF ?_
            rw [if_neg Bool.false_ne_true] at p2
            obtain ⟨d2, S5, μ5, eg, q5⟩ := gc_ok (g := gX X ca) (d := .non) (v := .non) (Q := fun d2 S2' μ2' => Ext X.K μ2 μ2' H3 H4 ∧ Rel (gX X ca) μ2' S2' H4) r3 r4 e4 rfl fun d2 S2' μ2' _ e5 r5 _ => ⟨e5, r5⟩
            have p2 : Post _ E (((gc S2 .non S3).bind fun _ S'' => loopC src (turnC F ie t c ρ) S1.length xs S'').bind fun _ S5 => .ok (D.loc S1.length) S5) μ2 H2 _ := p2
            rw [eg] at p2
            exact ⟨μ5, S5, e2.trans (e3.trans q5.1), q5.2, Post.pre (e3.trans q5.1) p2⟩
          | true =>
            refine iteT ?_
            rw [if_pos rfl] at p2
            cases hev : evE F ie ρ' S3 with
            | ok d S4 =>
              rw [hev] at p2
              refine ⟨μ4, ρ', S3, r4, s2.mono e4, Post.anyE hev fun μ5 H5 e5 r5 w hw => ?_⟩
              obtain ⟨d2, S6, μ6, eg, e6, r6, hw6⟩ := gc_ok (g := gX X ca) (Q := fun d2 S2' μ2' => Ext X.K μ2 μ2' H3 H5 ∧ Rel (gX X ca) μ2' S2' H5 ∧ Rep X.K μ2' H5 d2 w) r3 r5 (e4.trans e5) hw fun d2 S2' μ2' _ e5 r5 hw => ⟨e5, r5, hw⟩
              have p2 : Post _ E (((gc S2 d S4).bind fun d' S'' => match S''[S1.length]? with
                | some (.lst acc) => if acc.length < sizeLine then loopC src (turnC F ie t c ρ) S1.length xs (S''.set S1.length (.lst (acc ++ [d']))) else .bad
                | _ => .bad).bind fun _ S5 => .ok (D.loc S1.length) S5) μ2 H2 _ := p2
              rw [eg] at p2
              have p2 : Post _ E ((match S6[S1.length]? with
                | some (.lst acc) => if acc.length < sizeLine then loopC src (turnC F ie t c ρ) S1.length xs (S6.set S1.length (.lst (acc ++ [d2]))) else .bad
                | _ => .bad).bind fun _ S5 => .ok (D.loc S1.length) S5) μ2 H2 _ := p2
              have hn6 : μ6[S1.length]? = some Dn := e6.at_ (e2.at_ hn0)
              split at p2
              · rename_i acc hacc
                obtain ⟨vs, h1, h2⟩ := r6.at_ _ Dn _ hn6 hacc
                by_cases cz : acc.length < sizeLine
                · rw [if_pos cz] at p2
                  have n1 : ∀ q u, H5 Dn ≠ some (.frz q u) := fun q u e => by rw [h1] at e; cases e
                  have e7 : Ext X.K μ6 μ6 H5 (upd H5 Dn (.lst (vs ++ [w]))) := Ext.put (List.mem_of_getElem? hn6) n1
                  have r7 := r6.put (c := .lst (acc ++ [d2])) (o := .lst (vs ++ [w])) hn6 n1 ⟨vs ++ [w], upd_same, Reps.mono e7 (h2.app (Reps.one hw6))⟩
                  exact ⟨vs, h1, by rw [← h2.length]; exact cz, μ6, _, e2.trans ((e3.trans e6).trans e7), r7, Post.pre ((e3.trans e6).trans e7) p2⟩
                · rw [if_neg cz] at p2
                  exact p2.elim
              · exact p2.elim
            | ex cc fs S4 => rw [hev] at p2; exact p2.elim
            | bad => rw [hev] at p2; exact p2.elim
        | ex cc fs S3 => rw [hcv] at p2; exact p2.elim
        | bad => rw [hcv] at p2; exact p2.elim
    · rw [if_neg k] at p2
      exact p2.elim
section
variable {elt tg iter : Expr} {ifs : List Expr} {scope : Scope} {own : List (Str × Nat)} {pos : Pos} {ie : IE} {t : IT} {it : II} {c : IO}
theorem e_lc (hc : X.calm = true) (hN : X.N.Nodup) (hi : PI X tg iter (tI (gX X ca) E F t it)) (ok : BlkOk X.N X.env.scope scope own) (ho : own.map (·.2) = slotsT t)
    (hg : ∀ (s : Shared) (H : Hp) (C : Addr) (cl : List (Str × Addr)) (fp : List Addr), PG (X.blk s H scope (compEnvC scope cl C X.env) fp) tg (gB (gX X ca) t))
    (ht : ∀ (s : Shared) (H : Hp) (C : Addr) (cl : List (Str × Addr)) (fp : List Addr), PTs (X.blk s H scope (compEnvC scope cl C X.env) fp) ifs (tC (gX X ca) E0 F c))
    (he : ∀ (s : Shared) (H : Hp) (C : Addr) (cl : List (Str × Addr)) (fp : List Addr), PE (X.blk s H scope (compEnvC scope cl C X.env) fp) elt (tE (gX X ca) E0 F ie)) (hs : ∀ x, foldedSetIterable iter X.env x = pure x) :
    PE X (.ListComp elt [⟨tg, iter, ifs, 0⟩] scope pos) (tE (gX X ca) E F (.lc ie t it c)) := by
  refine PE.imp (pe_lc hc hN hi ok hg ht he hs) fun σ H Q q => ?_
  rw [ho]
  exact lc_read q
end
end
end Iv

set_option maxRecDepth 10000
/-! Iv15: stores, statements. -/
namespace Iv
open PySem PySem.Spec PyProof.Rows L2
/-- what a statement is to reach -/
def PostS (g : G) (E : XK) (N : Ends) (o : OutS) (μ : List Addr) (H : Hp) : Prop := match o with
  | .nx ρ' S' => ∀ μ' H' σ', Ext g.K μ μ' H H' → Rel g μ' S' H' → Slots g.K μ' H' σ' ρ' → N.nx σ' H'
  | .rt d S' => ∀ μ' H' v, Ext g.K μ μ' H H' → Rel g μ' S' H' → Rep g.K μ' H' d v → N.rt v H'
  | .bk ρ' S' => ∀ μ' H' σ', Ext g.K μ μ' H H' → Rel g μ' S' H' → Slots g.K μ' H' σ' ρ' → N.bk σ' H'
  | .ct ρ' S' => ∀ μ' H' σ', Ext g.K μ μ' H H' → Rel g μ' S' H' → Slots g.K μ' H' σ' ρ' → N.ct σ' H'
  | .ex c fs S' => ∀ μ' H' cls d, Ext g.K μ μ' H H' → Rel g μ' S' H' → XRep g μ' H' c fs cls d → E cls d H'
  | .bad => False
section
variable {g : G} {E : XK} {α : Type} {μ μ1 : List Addr} {H H1 : Hp} {S : Store} {N : Ends}
theorem PostS.pre {o : OutS} (e : Ext g.K μ μ1 H H1) (p : PostS g E N o μ H) : PostS g E N o μ1 H1 := by
  cases o with
  | nx ρ S => exact fun μ' H' σ' e' r s => p μ' H' σ' (e.trans e') r s
  | rt d S => exact fun μ' H' σ' e' r s => p μ' H' σ' (e.trans e') r s
  | bk ρ S => exact fun μ' H' σ' e' r s => p μ' H' σ' (e.trans e') r s
  | ct ρ S => exact fun μ' H' σ' e' r s => p μ' H' σ' (e.trans e') r s
  | ex c fs S => exact fun μ' H' cls d e' r s => p μ' H' cls d (e.trans e') r s
  | bad => exact p
theorem PostS.bindS {o : Out α} {f : α → Store → OutS} (p : PostS g E N (o.bindS f) μ H) : Post g E o μ H fun a S' μ' H' => PostS g E N (f a S') μ' H' := by
  cases o with
  | ok a S' => exact fun μ' H' e' r => PostS.pre e' p
  | ex c fs S' => exact p
  | bad => exact p
/-- a reading with a list of statements behind -/
def Next (g : G) (E : XK) (N : Ends) (f : Env → Store → OutS) : L2.St → Hp → Prop := fun σ H => ∃ μ ρ S, Rel g μ S H ∧ Slots g.K μ H σ ρ ∧ PostS g E N (f ρ S) μ H
theorem PostS.bind {o : OutS} {f : Env → Store → OutS} (p : PostS g E N (o.bind f) μ H) : PostS g E { N with nx := Next g E N f } o μ H := by
  cases o with
  | nx ρ S => exact fun μ' H' σ' e' r s => ⟨μ', ρ, S, r, s, PostS.pre e' p⟩
  | rt d S => exact p
  | bk ρ S => exact p
  | ct ρ S => exact p
  | ex c fs S => exact p
  | bad => exact p
theorem PostS.okN {ρ : Env} {σ : L2.St} (p : PostS g E N (.nx ρ S) μ H) (r : Rel g μ S H) (s : Slots g.K μ H σ ρ) : N.nx σ H := p μ H σ Ext.refl r s
end
def tS (g : G) (E : XK) (F : Fns) (s : IS) : TS := fun N σ H => ∃ μ ρ S, Rel g μ S H ∧ Slots g.K μ H σ ρ ∧ PostS g E N (evS F s ρ S) μ H
def tSs (g : G) (E : XK) (F : Fns) (s : ISs) : TS := fun N σ H => ∃ μ ρ S, Rel g μ S H ∧ Slots g.K μ H σ ρ ∧ PostS g E N (evSs F s ρ S) μ H
/-- a store -/
def gA (g : G) (E : XK) (F : Fns) (t : IT) : TG := fun v σ H Q => ∃ μ ρ S d, Rel g μ S H ∧ Slots g.K μ H σ ρ ∧ RepU g.K μ H t d v ∧ Post g E (asgT F t d ρ S) μ H fun ρ' _ μ' H' => ∀ σ', Slots g.K μ' H' σ' ρ' → Q σ' H'
def gAs (g : G) (E : XK) (F : Fns) (ts : ITs) : TGs := fun vs σ H Q => ∃ μ ρ S ds, Rel g μ S H ∧ Slots g.K μ H σ ρ ∧ Reps g.K μ H ds vs ∧ Post g E (asgTs F ts ds ρ S) μ H fun ρ' _ μ' H' => ∀ σ', Slots g.K μ' H' σ' ρ' → Q σ' H'
section
variable {X : Cx} {ca : Nat → Addr} {E : XK} {F : Fns}
/-! ### o[i] = v -/
theorem kv_keys : ∀ {kvs : List (L2.Key × V)} {vs : List (L2.Key × Value)}, KV kvs vs → kvs.map (·.1) = vs.map (·.1)
  | _, _, .nil => rfl
  | _, _, .cons h t => by
    rw [List.map_cons, List.map_cons, kv_keys t]
    exact congrArg (· :: _) h.1
theorem dk_nodup {pins : List (Addr × Obj)} {s : Shared} {σ : L2.St} {H : Hp} {a : Addr} {kvs : List (L2.Key × V)} (I : Inv X pins σ H s) (h : H a = some (.dK kvs)) : (kvs.map (·.1)).Nodup := by
  obtain ⟨_, _, vs, kv, o, es, ep, _, _, _, _, _, nd⟩ := (show ObjOk X.prog X.w H s.heap a (.dK kvs) from I.hok a _ h)
  rw [kv_keys kv]
  exact nd
def rSet (g : G) (E : XK) : TSet := fun o i v H Q => ∃ μ S d d' d'', Rel g μ S H ∧ Rep g.K μ H d o ∧ Rep g.K μ H d' i ∧ Rep g.K μ H d'' v ∧ Post g E (setD d d' d'' S) μ H fun _ _ _ H' => Q H'
theorem set_all (hu : X.A.units + 1 < cLine) : PSet X (rSet (gX X ca) E) := by
  intro pins s σ H o i v ov iv u Q I ro ri rv h
  obtain ⟨μ, S, d, d', d'', r, hd, hd', hd'', p⟩ := h
  cases d with
  | loc n =>
    have p : Post _ E (match S[n]?, d' with
      | some (.lst xs), .int k => match L2.ixN xs.length k with
        | some j => Out.ok () (S.set n (.lst (xs.set j d'')))
        | none => .bad
      | some (.dct false kvs), k => match D.key? k with
        | some q => if kvs.length < sizeLine then .ok () (S.set n (.dct false (putA q d'' kvs))) else .bad
        | none => .bad
      | _, _ => .bad) μ H _ := p
    obtain ⟨a, ha, rfl⟩ := hd
    split at p
    · rename_i xs k hs _
      obtain rfl : i = .int k := hd'
      obtain ⟨vs, h1, h2⟩ := r.at_ n a _ ha hs
      cases hj : L2.ixN xs.length k with
      | none => rw [hj] at p; exact p.elim
      | some j =>
        rw [hj] at p
        have q := (Post.putL (d := .non) (Q := fun _ _ H' => Q H') (E := E) (S := S) p r ha h1 (h2.set j hd'')).1
        exact set_list pins s σ H _ _ v ov iv u Q I ro ri rv ⟨a, vs, k, j, rfl, rfl, h1, by rw [← h2.length]; exact hj, q⟩
    · rename_i d' _ _ kvs hs _
      obtain ⟨kvs', h1, h2, h3⟩ := r.at_ n a _ ha hs
      have h1 : H a = some (.dK kvs') := h1
      cases hk : D.key? d' with
      | none => rw [hk] at p; exact p.elim
      | some q =>
        rw [hk] at p
        have p : Post _ E (if kvs.length < sizeLine then Out.ok () (S.set n (.dct false (putA q d'' kvs))) else .bad) μ H _ := p
        by_cases c : kvs.length < sizeLine
        · rw [if_pos c] at p
          obtain rfl : i = kV q := key_rep hk hd'
          have n1 : ∀ q u, H a ≠ some (.frz q u) := fun q u e => by rw [h1] at e; cases e
          have e : Ext X.K μ μ H (upd H a (.dK (putK kvs' q v))) := Ext.put (List.mem_of_getElem? ha) n1
          have hl : kvs.length = kvs'.length := by have := congrArg List.length h2; simpa using this
          have nd : (kvs'.map (·.1)).Nodup := dk_nodup I h1
          obtain ⟨z1, z2⟩ := put_rep (k := q) hd'' h2 h3 nd
          have r2 := r.put (c := .dct false (putA q d'' kvs)) (o := .dK (putK kvs' q v)) ha n1 ⟨_, upd_same, z1, Reps.mono e z2⟩
          exact set_dict hu pins s σ H _ _ v ov iv u Q I ro ri rv ⟨a, _, rfl, DPut.k h1 (by rw [← hl]; exact c), p μ _ e r2⟩
        · rw [if_neg c] at p
          exact p.elim
    · exact p.elim
  | _ => exact p.elim
end
end Iv

set_option maxRecDepth 10000
/-! Iv16: stores, statements (2). -/
namespace Iv
open PySem PySem.Spec PyProof.Rows L2
section
variable {X : Cx} {ca : Nat → Addr} {E : XK} {F : Fns}
/-! ### stores -/
theorem s_name {i : Nat} {x : Str} {pos : Pos} (h : PG X (.Name x pos) (gName i)) : PG X (.Name x pos) (gA (gX X ca) E F (.nm i)) := by
  refine PG.imp h fun v σ H Q q => ?_
  obtain ⟨μ, ρ, S, d, r, sl, hv, p⟩ := q
  have p : Post _ E (if i < ρ.length then Out.ok (ρ.set i (some d)) S else .bad) μ H _ := p
  by_cases c : i < ρ.length
  · rw [if_pos c] at p
    rcases hv with hv | ⟨⟨ts, e⟩, _⟩
    · exact p.okI r _ (sl.set i hv)
    · cases e
  · rw [if_neg c] at p
    exact p.elim
theorem s_sub (hu : X.A.units + 1 < cLine) {o i : Expr} {io ii : IE} {pos : Pos} (ho : PE X o (tE (gX X ca) E F io)) (hi : PE X i (tE (gX X ca) E F ii))
    (ha : ∀ v, assign (.Subscript o i pos) X.env v = (do
      let ov ← holding [v] (eval o X.env)
      let iv ← holding [v, ov] (eval i X.env)
      standAt pos
      holding [v, ov, iv] (setItem ov iv v)
      release [v, ov, iv] [])) : PG X (.Subscript o i pos) (gA (gX X ca) E F (.sub io ii)) := by
  refine PG.imp (pg_sub ho hi (set_all (ca := ca) (E := E) hu) ha) fun v σ H Q q => ?_
  obtain ⟨μ, ρ, S, d, r, sl, hv, p⟩ := q
  have p : Post _ E ((evE F io ρ S).bind fun x S1 => (evE F ii ρ S1).bind fun y S2 => (setD x y d S2).bind fun _ S3 => .ok ρ S3) μ H _ := p
  rcases hv with hv | ⟨⟨ts, e⟩, _⟩
  · refine one r sl p fun x H1 d1 S1 μ1 e1 r1 hx p1 => ?_
    refine one r1 (sl.mono e1) p1 fun y H2 d2 S2 μ2 e2 r2 hy p2 => ?_
    refine ⟨μ2, S2, d1, d2, d, r2, hx.mono e2, hy, (hv.mono e1).mono e2, p2.bind.imp fun _ S3 μ3 H3 e3 r3 q => ?_⟩
    exact Post.okI q r3 σ (((sl.mono e1).mono e2).mono e3)
  · cases e
theorem s_nil : PGs X [] (gAs (gX X ca) E F .nil) := by
  refine PGs.imp pgs_nil fun vs σ H Q q => ?_
  obtain ⟨μ, ρ, S, ds, r, sl, hv, p⟩ := q
  cases ds with
  | nil =>
    obtain rfl : vs = [] := hv
    exact ⟨rfl, Post.okI (show Post _ E (.ok ρ S) μ H _ from p) r σ sl⟩
  | cons d ds => exact p.elim
theorem s_cons {e : Expr} {es : List Expr} {t : IT} {ts : ITs} (h1 : PG X e (gA (gX X ca) E F t)) (h2 : PGs X es (gAs (gX X ca) E F ts)) (h : (assignEach (e :: es) X.env).map (·.2) = assign e X.env :: (assignEach es X.env).map (·.2)) : PGs X (e :: es) (gAs (gX X ca) E F (.cons t ts)) := by
  refine PGs.imp (pgs_cons h1 h2 h) fun vs σ H Q q => ?_
  obtain ⟨μ, ρ, S, ds, r, sl, hv, p⟩ := q
  cases ds with
  | nil => exact p.elim
  | cons d ds =>
    obtain ⟨v, vr, rfl, hv1, hv2⟩ := hv
    have p : Post _ E ((asgT F t d ρ S).bind fun ρ' S' => asgTs F ts ds ρ' S') μ H _ := p
    exact ⟨v, vr, rfl, μ, ρ, S, d, r, sl, .inl hv1, p.bind.imp fun ρ1 S1 μ1 H1 e1 r1 q σ1 s1 => ⟨μ1, ρ1, S1, ds, r1, s1, hv2.mono e1, q⟩⟩
theorem s_tup (hc : X.calm = true) {es : List Expr} {k : Nat} {ts : ITs} {pos : Pos} (h : PGs X es (gAs (gX X ca) E F ts)) (hn : (assignEach es X.env).length = slotsTs.len ts) (hst : (assignEach es X.env).findIdx? (·.1) = none) : PG X (.Tuple es k pos) (gA (gX X ca) E F (.tup ts)) := by
  refine PG.imp (pg_tup hc h hn hst) fun v σ H Q q => ?_
  obtain ⟨μ, ρ, S, d, r, sl, hv, p⟩ := q
  cases d with
  | tup ds =>
    have p : Post _ E (if ds.length = slotsTs.len ts then asgTs F ts ds ρ S else .bad) μ H _ := p
    by_cases c : ds.length = slotsTs.len ts
    · rw [if_pos c] at p
      have key : ∃ a vs, v = .ref a ∧ SqT X.K H a vs ∧ Reps X.K μ H ds vs := by
        rcases hv with ⟨a, vs, rfl, h1, h2⟩ | ⟨_, ds', a, vs, e, rfl, h1, h2⟩
        · exact ⟨a, vs, rfl, h1.sq, h2⟩
        · cases e
          exact ⟨a, vs, rfl, h1, h2⟩
      obtain ⟨a, vs, rfl, h1, h2⟩ := key
      exact ⟨a, vs, rfl, h1, by rw [← h2.length]; exact c, μ, ρ, S, ds, r, sl, h2, p⟩
    · rw [if_neg c] at p
      exact p.elim
  | _ => exact p.elim

/-! ### statements -/
theorem PSs.imp {e : List Stmt} {t t' : TS} (h : PSs X e t) (i : ∀ D σ H, t' D σ H → t D σ H) : PSs X e t' := ⟨fun pins s σ H D I q => h.run pins s σ H D I (i D σ H q)⟩
theorem ss_nil : PSs X [] (tSs (gX X ca) E F .nil) := by
  refine PSs.imp pss_nil fun D σ H q => ?_
  obtain ⟨μ, ρ, S, r, sl, p⟩ := q
  exact PostS.okN (show PostS _ E D (.nx ρ S) μ H from p) r sl
theorem ss_cons {s : Stmt} {ss : List Stmt} {is : IS} {iss : ISs} (h : PS X s (tS (gX X ca) E F is)) (hs : PSs X ss (tSs (gX X ca) E F iss)) : PSs X (s :: ss) (tSs (gX X ca) E F (.cons is iss)) := by
  refine PSs.imp (pss_cons h hs) fun D σ H q => ?_
  obtain ⟨μ, ρ, S, r, sl, p⟩ := q
  have p : PostS _ E D ((evS F is ρ S).bind fun ρ' S' => evSs F iss ρ' S') μ H := p
  exact ⟨μ, ρ, S, r, sl, p.bind⟩
theorem st_expr {e : Expr} {ie : IE} {pos : Pos} (h : PE X e (tE (gX X ca) E F ie)) (hs : swapsWith e none pos.line X.env = pure false) : PS X (.Expr e pos) (tS (gX X ca) E F (.expr ie)) := by
  refine PS.imp (ps_expr h hs) fun D σ H q => ?_
  obtain ⟨μ, ρ, S, r, sl, p⟩ := q
  have p : PostS _ E D ((evE F ie ρ S).bindS fun _ S1 => .nx ρ S1) μ H := p
  exact ⟨μ, ρ, S, r, sl, p.bindS.imp fun d S1 μ1 H1 e1 r1 q v hv => q.okN r1 (sl.mono e1)⟩
theorem st_asg {tg e : Expr} {ie : IE} {t : IT} {pos : Pos} (h : PE X e (tE (gX X ca) E F ie)) (hg : PG X tg (gA (gX X ca) E F t)) (hs : swapsWithSole [tg] e pos.line X.env = pure false) (hw : swappedStores [tg] e X.env = pure none) (h1 : (assignEach [tg] X.env).map (·.2) = [assign tg X.env]) :
    PS X (.Assign [tg] e pos) (tS (gX X ca) E F (.asg t ie)) := by
  refine PS.imp (ps_asg h hg hs hw h1) fun D σ H q => ?_
  obtain ⟨μ, ρ, S, r, sl, p⟩ := q
  have p : PostS _ E D ((evE F ie ρ S).bindS fun d S1 => (asgT F t d ρ S1).bindS fun ρ' S' => .nx ρ' S') μ H := p
  refine ⟨μ, ρ, S, r, sl, p.bindS.imp fun d S1 μ1 H1 e1 r1 q v hv => ?_⟩
  exact ⟨μ1, ρ, S1, d, r1, sl.mono e1, .inl hv, q.bindS.imp fun ρ' S' μ' H' e' r' q σ' s' => q.okN r' s'⟩
/-- name = [..] on one line -/
theorem st_setLc {i : Nat} {y : Str} {py : Pos} {elt tg iter : Expr} {ifs : List Expr} {scope : Scope} {own : List (Str × Nat)} {pos spos : Pos} {ie : IE} {t : IT} {it : II} {c : IO} (hc : X.calm = true) (hN : X.N.Nodup) (hy : X.N[i]? = some y) (hyl : X.env.scope.names.lookup y = some .local)
    (hsw : swapsWith (.ListComp elt [⟨tg, iter, ifs, 0⟩] scope pos) (some (.Name y py)) spos.line X.env = pure true) (hi : PI X tg iter (tI (gX X ca) E F t it)) (ok : BlkOk X.N X.env.scope scope own) (ho : own.map (·.2) = slotsT t)
    (hg : ∀ (s : Shared) (H : Hp) (C : Addr) (cl : List (Str × Addr)) (fp : List Addr), PG (X.blk s H scope (compEnvC scope cl C X.env) fp) tg (gB (gX X ca) t))
    (ht : ∀ (s : Shared) (H : Hp) (C : Addr) (cl : List (Str × Addr)) (fp : List Addr), PTs (X.blk s H scope (compEnvC scope cl C X.env) fp) ifs (tC (gX X ca) E0 F c))
    (he : ∀ (s : Shared) (H : Hp) (C : Addr) (cl : List (Str × Addr)) (fp : List Addr), PE (X.blk s H scope (compEnvC scope cl C X.env) fp) elt (tE (gX X ca) E0 F ie)) (hs : ∀ x, foldedSetIterable iter X.env x = pure x) :
    PS X (.Assign [.Name y py] (.ListComp elt [⟨tg, iter, ifs, 0⟩] scope pos) spos) (tS (gX X ca) E F (.asg (.nm i) (.lc ie t it c))) := by
  refine PS.imp (ps_setLc hc hN hy hyl hsw hi ok hg ht he hs) fun D σ H q => ?_
  obtain ⟨μ, ρ, S, r, sl, p⟩ := q
  have p : PostS _ E D ((evE F (.lc ie t it c) ρ S).bindS fun d S1 => (asgT F (.nm i) d ρ S1).bindS fun ρ' S' => .nx ρ' S') μ H := p
  show tLc _ _ _ _ _ σ H _
  rw [ho]
  refine lc_read ⟨μ, ρ, S, r, sl, p.bindS.imp fun d S1 μ1 H1 e1 r1 q v hv => ?_⟩
  have q : PostS _ E D ((if i < ρ.length then Out.ok (ρ.set i (some d)) S1 else .bad).bindS fun ρ' S' => .nx ρ' S') μ1 H1 := q
  by_cases c : i < ρ.length
  · rw [if_pos c] at q
    exact q.okN r1 ((sl.mono e1).set i hv)
  · rw [if_neg c] at q
    exact q.elim
theorem st_par2 {i j : Nat} {x y : Str} {a b : Expr} {ia ib : IE} {px py pt pos : Pos} {kt k2 : Nat} {pt2 : Pos} (hc : X.calm = true) (hN : X.N.Nodup) (hi : X.N[i]? = some x) (hj : X.N[j]? = some y) (hij : i ≠ j)
    (hx : X.env.scope.names.lookup x = some .local) (hy : X.env.scope.names.lookup y = some .local) (ha : PA X [a, b] (tEs (gX X ca) E F (.cons ia (.cons ib .nil))))
    (hw : swappedStores [.Tuple [.Name x px, .Name y py] kt pt] (.Tuple [a, b] k2 pt2) X.env = pure (some [x, y]))
    (hs : swapsWithSole [.Tuple [.Name x px, .Name y py] kt pt] (.Tuple [a, b] k2 pt2) pos.line X.env = pure false) :
    PS X (.Assign [.Tuple [.Name x px, .Name y py] kt pt] (.Tuple [a, b] k2 pt2) pos) (tS (gX X ca) E F (.par2 i j ia ib)) := by
  refine PS.imp (ps_par hc hN hi hj hij hx hy ha hw hs) fun D σ H q => ?_
  obtain ⟨μ, ρ, S, r, sl, p⟩ := q
  have p : PostS _ E D ((evE F ia ρ S).bindS fun d S1 => (evE F ib ρ S1).bindS fun d' S2 => if i < ρ.length ∧ j < ρ.length then .nx ((ρ.set i (some d)).set j (some d')) S2 else .bad) μ H := p
  refine ⟨μ, ρ, S, r, sl, ?_⟩
  have key : Post (gX X ca) E (evEs F (.cons ia (.cons ib .nil)) ρ S) μ H fun ds S2 μ2 H2 => ∃ d d', ds = [d, d'] ∧ PostS (gX X ca) E D (if i < ρ.length ∧ j < ρ.length then .nx ((ρ.set i (some d)).set j (some d')) S2 else .bad) μ2 H2 := by
    show Post _ E ((evE F ia ρ S).bind fun d S1 => ((evE F ib ρ S1).bind fun d' S2 => (Out.ok ([] : List Iv.D) S2).bind fun ds S3 => .ok (d' :: ds) S3).bind fun ds S2 => .ok (d :: ds) S2) μ H _
    cases h1 : evE F ia ρ S with
    | ok d S1 =>
      rw [h1] at p
      have p : PostS _ E D ((evE F ib ρ S1).bindS fun d' S2 => if i < ρ.length ∧ j < ρ.length then .nx ((ρ.set i (some d)).set j (some d')) S2 else .bad) μ H := p
      show Post _ E (((evE F ib ρ S1).bind fun d' S2 => (Out.ok ([] : List Iv.D) S2).bind fun ds S3 => .ok (d' :: ds) S3).bind fun ds S2 => .ok (d :: ds) S2) μ H _
      cases h2 : evE F ib ρ S1 with
      | ok d' S2 =>
        rw [h2] at p
        exact fun μ' H' e' r' => ⟨d, d', rfl, PostS.pre e' p⟩
      | ex c fs S2 => rw [h2] at p; exact p
      | bad => rw [h2] at p; exact p
    | ex c fs S1 => rw [h1] at p; exact p
    | bad => rw [h1] at p; exact p
  refine key.imp fun ds S2 μ2 H2 e2 r2 ⟨d, d', e, q⟩ vs hv => ?_
  subst e
  obtain ⟨v, v', rfl, h1, h2⟩ := args2 hv
  by_cases c : i < ρ.length ∧ j < ρ.length
  · rw [if_pos c] at q
    exact ⟨v, v', rfl, q.okN r2 (((sl.mono e2).set i h1).set j h2)⟩
  · rw [if_neg c] at q
    exact q.elim
theorem st_retN {pos : Pos} : PS X (.Return none pos) (tS (gX X ca) E F (.ret .none)) := by
  refine PS.imp ps_retN fun D σ H q => ?_
  obtain ⟨μ, ρ, S, r, sl, p⟩ := q
  exact (show PostS _ E D (.rt .non S) μ H from p) μ H _ Ext.refl r rfl
theorem st_ret {e : Expr} {ie : IE} {pos : Pos} (h : PE X e (tE (gX X ca) E F ie)) : PS X (.Return (some e) pos) (tS (gX X ca) E F (.ret (.some ie))) := by
  refine PS.imp (ps_ret h) fun D σ H q => ?_
  obtain ⟨μ, ρ, S, r, sl, p⟩ := q
  have p : PostS _ E D ((evE F ie ρ S).bindS fun d S1 => .rt d S1) μ H := p
  exact ⟨μ, ρ, S, r, sl, p.bindS.imp fun d S1 μ1 H1 e1 r1 q v hv => q μ1 H1 v Ext.refl r1 hv⟩
theorem st_pass {pos : Pos} : PS X (.Pass pos) (tS (gX X ca) E F .pas) := by
  refine PS.imp ps_pass fun D σ H q => ?_
  obtain ⟨μ, ρ, S, r, sl, p⟩ := q
  exact PostS.okN (show PostS _ E D (.nx ρ S) μ H from p) r sl
theorem st_brk {pos : Pos} : PS X (.Break pos) (tS (gX X ca) E F .brk) := by
  refine PS.imp ps_break fun D σ H q => ?_
  obtain ⟨μ, ρ, S, r, sl, p⟩ := q
  exact (show PostS _ E D (.bk ρ S) μ H from p) μ H σ Ext.refl r sl
theorem st_cnt {pos : Pos} : PS X (.Continue pos) (tS (gX X ca) E F .cnt) := by
  refine PS.imp ps_continue fun D σ H q => ?_
  obtain ⟨μ, ρ, S, r, sl, p⟩ := q
  exact (show PostS _ E D (.ct ρ S) μ H from p) μ H σ Ext.refl r sl
theorem st_if {c : Expr} {a b : List Stmt} {ic : IE} {ia ib : ISs} {pos : Pos} (hc : PT X c (tT (gX X ca) E F ic)) (ha : PSs X a (tSs (gX X ca) E F ia)) (hb : PSs X b (tSs (gX X ca) E F ib)) : PS X (.If c a b pos) (tS (gX X ca) E F (.ife ic ia ib)) := by
  refine PS.imp (ps_if hc ha hb) fun D σ H q => ?_
  obtain ⟨μ, ρ, S, r, sl, p⟩ := q
  have p : PostS _ E D (((evE F ic ρ S).bind truO).bindS fun k S1 => if k then evSs F ia ρ S1 else evSs F ib ρ S1) μ H := p
  refine ⟨μ, ρ, S, r, sl, p.bindS.imp fun k S1 μ1 H1 e1 r1 q => ?_⟩
  cases k with
  | true => exact iteT ⟨μ1, ρ, S1, r1, sl.mono e1, q⟩
  | false => exact iteF ⟨μ1, ρ, S1, r1, sl.mono e1, q⟩
/-- name op= e, numbers -/
theorem ip_int {op : Operator} (h : op = .Add ∨ op = .Sub) : PIp X op fun x y H Q => ∃ i j z, x = .int i ∧ y = .int j ∧ opI op i j = some z ∧ Q (.int z) H := by
  intro pins s σ H x y v u Q I r1 r2 q
  obtain ⟨i, j, z, rfl, rfl, e, q⟩ := q
  rcases h with rfl | rfl
  · cases e
    exact ip_add pins s σ H _ _ v u Q I r1 r2 ⟨i, j, rfl, rfl, q⟩
  · cases e
    exact ip_sub pins s σ H _ _ v u Q I r1 r2 ⟨i, j, rfl, rfl, q⟩
theorem st_aug {i : Nat} {x : Str} {e : Expr} {ie : IE} {op : Operator} {pos pos' : Pos} (h : PE X e (tE (gX X ca) E F ie)) (hop : op = .Add ∨ op = .Sub) (hN : X.N.Nodup) (hi : X.N[i]? = some x) (hx : Loc X.env.scope x) (hf : X.fn x = true ∨ X.env.scope.names.lookup x = some .local) :
    PS X (.AugAssign (.Name x pos') op e pos) (tS (gX X ca) E F (.aug op i ie)) := by
  refine PS.imp (ps_aug hN hi hx h (ip_int hop) hf) fun D σ H q => ?_
  obtain ⟨μ, ρ, S, r, sl, p⟩ := q
  have p : PostS _ E D (match ρ[i]? with
    | some (some (.int a)) => (evE F ie ρ S).bindS fun y S1 => match y with
      | .int b => match opI op a b with
        | some r => .nx (ρ.set i (some (.int r))) S1
        | none => .bad
      | _ => .bad
    | _ => .bad) μ H := p
  split at p
  · rename_i a ha
    obtain ⟨v, h1, h2⟩ := sl.2 i _ ha
    obtain rfl : v = .int a := h2
    refine ⟨.int a, h1, μ, ρ, S, r, sl, p.bindS.imp fun d S1 μ1 H1 e1 r1 q w hw => ?_⟩
    cases d with
    | int b =>
      obtain rfl : w = .int b := hw
      have q : PostS _ E D (match opI op a b with | some r => .nx (ρ.set i (some (.int r))) S1 | none => .bad) μ1 H1 := q
      cases ho : opI op a b with
      | none => rw [ho] at q; exact q.elim
      | some z =>
        rw [ho] at q
        exact ⟨a, b, z, rfl, rfl, ho, q.okN r1 ((sl.mono e1).set i (d := .int z) (v := .int z) rfl)⟩
    | _ => exact q.elim
  · exact p.elim
/-! ### loops -/
theorem st_whl {c : Expr} {b : List Stmt} {ic : IE} {ib : ISs} {pos : Pos} (hp : PassesOwn (model X.prog X.w) X.A X.env X.xe) (hc : PT X c (tT (gX X ca) E F ic)) (hb : PSs X b (tSs (gX X ca) E F ib)) : PS X (.While c b [] pos) (tS (gX X ca) E F (.whl ic ib)) := by
  refine PS.imp (ps_while hp hc hb) fun D σ H q => ?_
  obtain ⟨μ, ρ, S, r, sl, p⟩ := q
  have p : PostS _ E D (loopW (fun ρ S => (evE F ic ρ S).bind truO) (evSs F ib) fuelW ρ S) μ H := p
  refine ⟨fun m σ H => ∃ μ ρ S, Rel (gX X ca) μ S H ∧ Slots X.K μ H σ ρ ∧ PostS (gX X ca) E D (loopW (fun ρ S => (evE F ic ρ S).bind truO) (evSs F ib) m ρ S) μ H, ⟨fuelW, μ, ρ, S, r, sl, p⟩, ?_⟩
  rintro m σ H ⟨μ, ρ, S, r, sl, p⟩
  cases m with
  | zero => exact p.elim
  | succ m =>
    have p : PostS _ E D (((evE F ic ρ S).bind truO).bindS fun b S1 => if b then
      match evSs F ib ρ S1 with
      | .nx ρ' S' => loopW (fun ρ S => (evE F ic ρ S).bind truO) (evSs F ib) m ρ' S'
      | .ct ρ' S' => loopW (fun ρ S => (evE F ic ρ S).bind truO) (evSs F ib) m ρ' S'
      | .bk ρ' S' => .nx ρ' S'
      | o => o
    else .nx ρ S1) μ H := p
    refine ⟨μ, ρ, S, r, sl, p.bindS.imp fun k S1 μ1 H1 e1 r1 q => ?_⟩
    cases k with
    | false => exact iteF (PostS.okN (show PostS _ E D (.nx ρ S1) μ1 H1 from q) r1 (sl.mono e1))
    | true =>
      refine iteT ⟨fun σ' H' => ∃ μ ρ S, Rel (gX X ca) μ S H' ∧ Slots X.K μ H' σ' ρ ∧ PostS (gX X ca) E D (loopW (fun ρ S => (evE F ic ρ S).bind truO) (evSs F ib) m ρ S) μ H', fun σ' H' n => ⟨m, Nat.lt_succ_self m, n⟩, μ1, ρ, S1, r1, sl.mono e1, ?_⟩
      rw [if_pos rfl] at q
      cases hb : evSs F ib ρ S1 with
      | nx ρ' S' => rw [hb] at q; exact fun μ' H' σ' e' r' s' => ⟨μ', ρ', S', r', s', PostS.pre e' q⟩
      | ct ρ' S' => rw [hb] at q; exact fun μ' H' σ' e' r' s' => ⟨μ', ρ', S', r', s', PostS.pre e' q⟩
      | bk ρ' S' => rw [hb] at q; exact q
      | rt d S' => rw [hb] at q; exact q
      | ex c fs S' => rw [hb] at q; exact q
      | bad => rw [hb] at q; exact q
theorem for_read {t : IT} {ib : ISs} {items : List D} {src : Src} {J : It} {D : Ends} {μ1 : List Addr} {H1 : Hp} {S1 : Store} {σ : L2.St} {ρ : Env} (r1 : Rel (gX X ca) μ1 S1 H1) (sl : Slots X.K μ1 H1 σ ρ) (ok : ItOk (gX X ca) t J items src μ1 H1)
    (p : PostS (gX X ca) E D (loopF src (fun x ρ S => (asgT F t x ρ S).bindS fun ρ' S' => evSs F ib ρ' S') items ρ S1) μ1 H1) :
    ∃ W : Nat → Nat → L2.St → Hp → Prop, (∃ m, W 0 m σ H1) ∧ ∀ i m σ H, W i m σ H →
      (J.stop i H ∧ D.nx σ H) ∨ (J.go i H ∧ ∃ N : L2.St → Hp → Prop, (∀ σ' H', N σ' H' → ∃ m', m' < m ∧ W (i + 1) m' σ' H') ∧ ∀ x H', J.yld i H x H' → gA (gX X ca) E F t x σ H' fun σ2 H2 => tSs (gX X ca) E F ib { D with nx := N, ct := N, bk := D.nx } σ2 H2) := by
  generalize hf : (fun x ρ S => (asgT F t x ρ S).bindS fun ρ' S' => evSs F ib ρ' S') = f at p
  refine ⟨fun i m σ H => m = items.length - i ∧ ∃ μ ρ S, Ext X.K μ1 μ H1 H ∧ Rel (gX X ca) μ S H ∧ Slots X.K μ H σ ρ ∧ PostS (gX X ca) E D (loopF src f (items.drop i) ρ S) μ H, ⟨items.length, by simp, μ1, ρ, S1, Ext.refl, r1, sl, by rw [List.drop_zero]; exact p⟩, ?_⟩
  rintro i m σ H ⟨rfl, μ, ρ, S, e, r, sl, p⟩
  cases hd : items.drop i with
  | nil =>
    rw [hd] at p
    have p : PostS _ E D (if src.ok S = true then .nx ρ S else .bad) μ H := p
    by_cases k : src.ok S = true
    · rw [if_pos k] at p
      exact .inl ⟨ok.stop μ S H i e r k (List.drop_eq_nil_iff.mp hd), p.okN r sl⟩
    · rw [if_neg k] at p
      exact p.elim
  | cons x xs =>
    rw [hd] at p
    have hi : i < items.length := by
      have : (items.drop i).length ≠ 0 := by rw [hd]; simp
      rw [List.length_drop] at this
      omega
    have hxi : items[i]? = some x := by
      have : (items.drop i)[0]? = some x := by rw [hd]; rfl
      simpa using this
    have hdx : items.drop (i + 1) = xs := by
      rw [← List.drop_drop, hd] <;> rfl
    have p : PostS _ E D (if src.ok S = true then
      match f x ρ S with
      | .nx ρ' S' => loopF src f xs ρ' S'
      | .ct ρ' S' => loopF src f xs ρ' S'
      | .bk ρ' S' => .nx ρ' S'
      | o => o
    else .bad) μ H := p
    by_cases k : src.ok S = true
    · rw [if_pos k] at p
      obtain ⟨hgo, hyl⟩ := ok.go i x μ S H e r k hxi
      refine .inr ⟨hgo, fun σ' H' => ∃ μ' ρ' S', Ext X.K μ1 μ' H1 H' ∧ Rel (gX X ca) μ' S' H' ∧ Slots X.K μ' H' σ' ρ' ∧ PostS (gX X ca) E D (loopF src f xs ρ' S') μ' H',
        fun σ' H' n => ⟨items.length - (i + 1), by omega, rfl, by rw [hdx]; exact n⟩, fun v H2 y => ?_⟩
      obtain ⟨e2, r2, hv⟩ := hyl v H2 y
      have e12 := e.trans e2
      have hb : f x ρ S = (asgT F t x ρ S).bindS fun ρ' S' => evSs F ib ρ' S' := by rw [← hf]
      have q : PostS (gX X ca) E { D with nx := fun σ' H' => ∃ μ' ρ' S', Ext X.K μ1 μ' H1 H' ∧ Rel (gX X ca) μ' S' H' ∧ Slots X.K μ' H' σ' ρ' ∧ PostS (gX X ca) E D (loopF src f xs ρ' S') μ' H', ct := fun σ' H' => ∃ μ' ρ' S', Ext X.K μ1 μ' H1 H' ∧ Rel (gX X ca) μ' S' H' ∧ Slots X.K μ' H' σ' ρ' ∧ PostS (gX X ca) E D (loopF src f xs ρ' S') μ' H', bk := D.nx } (f x ρ S) μ H2 := by
        cases hfx : f x ρ S with
        | nx ρ' S' => rw [hfx] at p; exact fun μ' H' σ' e' r' s' => ⟨μ', ρ', S', e12.trans e', r', s', PostS.pre (e2.trans e') p⟩
        | ct ρ' S' => rw [hfx] at p; exact fun μ' H' σ' e' r' s' => ⟨μ', ρ', S', e12.trans e', r', s', PostS.pre (e2.trans e') p⟩
        | bk ρ' S' => rw [hfx] at p; exact fun μ' H' σ' e' r' s' => p μ' H' σ' (e2.trans e') r' s'
        | rt d S' => rw [hfx] at p; exact fun μ' H' σ' e' r' s' => p μ' H' σ' (e2.trans e') r' s'
        | ex c fs S' => rw [hfx] at p; exact fun μ' H' cls d e' r' s' => p μ' H' cls d (e2.trans e') r' s'
        | bad => rw [hfx] at p; exact p
      rw [hb] at q
      exact ⟨μ, ρ, S, x, r2, sl.mono e2, hv, q.bindS.imp fun ρ' S' μ' H' e' r' q σ' s' => ⟨μ', ρ', S', r', s', q⟩⟩
    · rw [if_neg k] at p
      exact p.elim
theorem st_for {tg iter : Expr} {b : List Stmt} {t : IT} {it : II} {ib : ISs} {pos : Pos} (hp : PassesOwn (model X.prog X.w) X.A X.env X.xe) (hc : X.calm = true) (hi : PI X tg iter (tI (gX X ca) E F t it)) (hg : PG X tg (gA (gX X ca) E F t)) (hb : PSs X b (tSs (gX X ca) E F ib))
    (hs : ∀ x, foldedSetIterable iter X.env x = pure x) : PS X (.For tg iter b [] pos) (tS (gX X ca) E F (.for_ t it ib)) := by
  refine PS.imp (ps_for hp hc hi hg hb hs) fun D σ H q => ?_
  obtain ⟨μ, ρ, S, r, sl, p⟩ := q
  have p : PostS _ E D ((evI F it ρ S).bindS fun p S1 => loopF p.2 (fun x ρ S => (asgT F t x ρ S).bindS fun ρ' S' => evSs F ib ρ' S') p.1 ρ S1) μ H := p
  refine ⟨μ, ρ, S, r, sl, p.bindS.imp fun ps S1 μ1 H1 e1 r1 q J ok => ?_⟩
  exact for_read r1 (sl.mono e1) ok q
end
end Iv

set_option maxRecDepth 10000
/-! IvA: a loop over a dict; dict, sorted, repr, displays of dicts and sets. -/
namespace Iv
open PySem PySem.Spec PyProof.Rows L2
/-! ### locked and unlocked -/
section
variable {K : PySem.W.Frag} {μ : List Addr} {H : Hp} {d : Addr} {od : Obj} {kv : List (L2.Key × V)} {u : HO}
mutual
theorem Rep.unl (h : H d = some (.frz od (.dK kv))) : ∀ {x : D} {v : V}, Rep K μ H x v → Rep K μ (upd H d u) x v
  | .non, _, z | .bl _, _, z | .int _, _, z | .str _, _, z => z
  | .loc n, _, z => z
  | .tup ds, _, z => by
    obtain ⟨a, vs, h1, ⟨o, h2, h2'⟩, h3⟩ := z
    refine ⟨a, vs, h1, ⟨o, ?_, h2'⟩, Reps.unl h h3⟩
    rw [upd_ne]
    · exact h2
    · rintro rfl
      rw [h] at h2
      cases h2
  | .rol ds, _, z => by
    obtain ⟨a, vs, h1, h2, h3⟩ := z
    refine ⟨a, vs, h1, ?_, Reps.unl h h3⟩
    rcases h2 with ⟨o, h2⟩ | h2
    · refine .inl ⟨o, ?_⟩
      rw [upd_ne]
      · exact h2
      · rintro rfl
        rw [h] at h2
        cases h2
    · exact .inr h2
theorem Reps.unl (h : H d = some (.frz od (.dK kv))) : ∀ {xs : List D} {vs : List V}, Reps K μ H xs vs → Reps K μ (upd H d u) xs vs
  | [], _, z => z
  | x :: xs, _, z => by
    obtain ⟨v, r, h0, h1, h2⟩ := z
    exact ⟨v, r, h0, Rep.unl h h1, Reps.unl h h2⟩
end
theorem cell_unl {g : G} {a : Addr} (h : H d = some (.frz od (.dK kv))) (hn : a ≠ d) : ∀ {c : Cell}, CellOk g μ H a c → CellOk g μ (upd H d u) a c
  | .lst _, z => by
    obtain ⟨vs, h1, h2⟩ := z
    exact ⟨vs, (upd_ne hn).trans h1, Reps.unl h h2⟩
  | .dct true _, z => by
    obtain ⟨vs, ⟨o, h1⟩, h2, h3⟩ := z
    exact ⟨vs, ⟨o, (upd_ne hn).trans h1⟩, h2, Reps.unl h h3⟩
  | .dct false _, z => by
    obtain ⟨vs, h1, h2, h3⟩ := z
    exact ⟨vs, (upd_ne hn).trans h1, h2, Reps.unl h h3⟩
  | .dtp _, z => z.1.elim
  | .set _, z => ⟨(upd_ne hn).trans z.1, z.2⟩
  | .ins _ _, z => by
    obtain ⟨dx, fs, h1, h2, h3⟩ := z
    exact ⟨dx, fs, (upd_ne hn).trans h1, h2, Reps.unl h h3⟩
theorem Rel.unl {g : G} {S : Store} {n : Nat} {kvs : List (Key × D)} (r : Rel g μ S H) (hd : μ[n]? = some d) (h : H d = some (.frz od (.dK kv))) (hs : S[n]? = some (.dct true kvs)) : Rel g μ (S.set n (.dct false kvs)) (upd H d (.dK kv)) := by
  refine ⟨by simp [r.len], r.nd, fun i a c hb hc => ?_⟩
  by_cases e : i = n
  · subst e
    rw [hd] at hb
    cases hb
    have hi : i < S.length := by rw [← r.len]; exact (List.getElem?_eq_some_iff.mp hd).1
    rw [List.getElem?_set_self hi] at hc
    cases hc
    obtain ⟨kv2, h1, h2, h3⟩ := r.at_ i _ _ hd hs
    obtain ⟨o, h1⟩ := (show ∃ o, H d = some (.frz o (.dK kv2)) from h1)
    rw [h] at h1
    cases h1
    exact ⟨kv, upd_same, h2, Reps.unl h h3⟩
  · rw [List.getElem?_set_ne (Ne.symm e)] at hc
    refine cell_unl h (fun z => e ?_) (r.at_ i a c hb hc)
    subst z
    exact (List.getElem?_inj (List.getElem?_eq_some_iff.mp hb).1 r.nd).mp (hb.trans hd.symm)
theorem Ext.unl {μ' : List Addr} {H0 H' : Hp} (hm : d ∈ μ) (h0 : H0 d = some (.dK kv)) (e : Ext K μ μ' (upd H0 d (.frz od (.dK kv))) H') : Ext K μ μ' H0 (upd H' d (.dK kv)) := by
  refine ⟨e.pre, fun b hb hn => ?_, fun b o hb hn => ?_, fun b o u hb => ?_⟩
  · have z := e.fresh b hb hn
    rw [upd_ne (fun q => hn (by rw [q]; exact hm))] at z
    exact z
  · have nb : b ≠ d := fun q => hn (by rw [q]; exact hm)
    rw [upd_ne nb]
    exact e.keep b o (by rw [upd_ne nb]; exact hb) hn
  · have nb : b ≠ d := fun q => by rw [q, h0] at hb; cases hb
    rw [upd_ne nb]
    exact e.frz b o u (by rw [upd_ne nb]; exact hb)
end
section
variable {X : Cx} {ca : Nat → Addr} {E : XK} {F : Fns} {t : IT}
theorem it_keys {μ1 : List Addr} {H1 : Hp} {d : Addr} {od : Obj} {kvs : List (Key × D)} {kv : List (L2.Key × V)} {n : Nat} (h : H1 d = some (.frz od (.dK kv))) (hk : kvs.map (·.1) = kv.map (·.1)) :
    ItOk (gX X ca) t (Itk d od kv) (kvs.map fun p => ofKey p.1) (.dct n kvs) μ1 H1 := by
  have hl : kvs.length = kv.length := by simpa using congrArg List.length hk
  refine ⟨fun i x μ' S' H' e r ok hi => ?_, fun μ' S' H' i e r ok hi => ⟨e.frz _ _ _ h, by rw [← hl]; simpa using hi⟩⟩
  rw [List.getElem?_map] at hi
  obtain ⟨p, hp, rfl⟩ := Option.map_eq_some_iff.mp hi
  refine ⟨⟨e.frz _ _ _ h, by rw [← hl]; exact (List.getElem?_eq_some_iff.mp hp).1⟩, fun v H2 y => ?_⟩
  obtain ⟨rfl, k, v', hkv, rfl⟩ := y
  refine ⟨Ext.refl, r, .inl ?_⟩
  have e1 : (kvs.map (·.1))[i]? = some p.1 := by rw [List.getElem?_map, hp]; rfl
  rw [hk, List.getElem?_map, hkv] at e1
  have : p.1 = k := (Option.some.inj e1).symm
  rw [this]
  cases k <;> rfl
theorem st_forK {tg : Expr} {b : List Stmt} {i : Nat} {x : Str} {ib : ISs} {pos p : Pos} (hp : PassesOwn (model X.prog X.w) X.A X.env X.xe) (hc : X.calm = true) (hv : PE X (.Name x p) (tVar i)) (hg : PG X tg (gA (gX X ca) E F t)) (hb : PSs X b (tSs (gX X ca) E F ib)) :
    PS X (.For tg (.Name x p) b [] pos) (tS (gX X ca) E F (.forK t i ib)) := by
  refine PS.imp (ps_lock (ps_for hp hc (pi_keys hv) hg hb fun _ => rfl)) fun D σ H q => ?_
  obtain ⟨μ, ρ, S, r, sl, p⟩ := q
  have p : PostS _ E D (match ρ[i]? with
    | some (some (.loc n)) => match S[n]? with
      | some (.dct false kvs) => unlock n kvs (loopF (.dct n kvs) (fun x ρ S => (asgT F t x ρ S).bindS fun ρ' S' => evSs F ib ρ' S') (kvs.map fun p => ofKey p.1) ρ (lockS n kvs S))
      | _ => .bad
    | _ => .bad) μ H := p
  split at p
  · rename_i n hn
    obtain ⟨v, hv1, a, ha, rfl⟩ := sl.2 i _ hn
    split at p
    · rename_i kvs hs
      obtain ⟨kv, h1, h2, h3⟩ := r.at_ n a _ ha hs
      have h1 : H a = some (.dK kv) := h1
      refine ⟨a, .dK kv, h1, trivial, fun od => ⟨.ref a, hv1, a, od, rfl, .inl ⟨kv, upd_same, ?_⟩⟩⟩
      have hm : a ∈ μ := List.mem_of_getElem? ha
      have n1 : ∀ q u, H a ≠ some (.frz q u) := fun q u e => by rw [h1] at e; cases e
      have e1 : Ext X.K μ μ H (upd H a (.frz od (.dK kv))) := Ext.put hm n1
      have r1 : Rel (gX X ca) μ (lockS n kvs S) (upd H a (.frz od (.dK kv))) := r.put ha n1 ⟨kv, ⟨od, upd_same⟩, h2, Reps.mono e1 h3⟩
      refine for_read (S1 := lockS n kvs S) (src := .dct n kvs) r1 (sl.mono e1) (it_keys upd_same h2) ?_
      revert p
      generalize loopF (.dct n kvs) (fun x ρ S => (asgT F t x ρ S).bindS fun ρ' S' => evSs F ib ρ' S') (kvs.map fun p => ofKey p.1) ρ (lockS n kvs S) = o
      intro p
      have key : ∀ {f : Store → OutS} {S' : Store} {μ' : List Addr} {H' : Hp}, PostS (gX X ca) E D (unlockO n kvs S' f) μ H → Ext X.K μ μ' (upd H a (.frz od (.dK kv))) H' → Rel (gX X ca) μ' S' H' →
          H' a = some (.frz od (.dK kv)) ∧ Rel (gX X ca) μ' (S'.set n (.dct false kvs)) (upd H' a (.dK kv)) ∧ Ext X.K μ μ' H (upd H' a (.dK kv)) ∧ PostS (gX X ca) E D (f (S'.set n (.dct false kvs))) μ H := fun {f S' μ' H'} p e r' => by
        have z : H' a = some (.frz od (.dK kv)) := e.frz _ _ _ upd_same
        unfold unlockO at p
        by_cases c : S'[n]? = some (.dct true kvs)
        · rw [if_pos c] at p
          exact ⟨z, r'.unl (e.at_ ha) z c, Ext.unl hm h1 e, p⟩
        · rw [if_neg c] at p
          exact p.elim
      have sk : ∀ {σ' : L2.St} {ρ' : Env} {μ' : List Addr} {H' : Hp}, H' a = some (.frz od (.dK kv)) → Slots X.K μ' H' σ' ρ' → Slots X.K μ' (upd H' a (.dK kv)) σ' ρ' := fun z s' => ⟨s'.1, fun i d hd => by
        obtain ⟨v, q1, q2⟩ := s'.2 i d hd
        exact ⟨v, q1, Rep.unl z q2⟩⟩
      cases o with
      | nx ρ' S' =>
        intro μ' H' σ' e r' s'
        obtain ⟨z, r2, e2, p2⟩ := key p e r'
        exact ⟨z, p2 μ' _ σ' e2 r2 (sk z s')⟩
      | rt d' S' =>
        intro μ' H' v e r' hv
        obtain ⟨z, r2, e2, p2⟩ := key p e r'
        exact ⟨z, p2 μ' _ v e2 r2 (Rep.unl z hv)⟩
      | bk ρ' S' =>
        intro μ' H' σ' e r' s'
        obtain ⟨z, r2, e2, p2⟩ := key p e r'
        exact ⟨z, p2 μ' _ σ' e2 r2 (sk z s')⟩
      | ct ρ' S' =>
        intro μ' H' σ' e r' s'
        obtain ⟨z, r2, e2, p2⟩ := key p e r'
        exact ⟨z, p2 μ' _ σ' e2 r2 (sk z s')⟩
      | ex c fs S' => exact p.elim
      | bad => exact p.elim
    · exact p.elim
  · exact p.elim
end
end Iv

set_option maxRecDepth 10000
/-! IvB: dict, sorted, repr, displays of dicts and sets. -/
namespace Iv
open PySem PySem.Spec PyProof.Rows L2
section
variable {X : Cx} {ca : Nat → Addr} {E : XK} {F : Fns}
/-! ### sorted -/
theorem rising_pw : ∀ {r : List Str} {p : Str}, risingS p r = true → (p :: r).Pairwise fun a b => leStr a b = true
  | [], p, _ => by simp
  | x :: r, p, h => by
    have h : (!ltCps x.cps.toList p.cps.toList && risingS x r) = true := h
    obtain ⟨h1, h2⟩ := Bool.and_eq_true_iff.mp h
    have i := rising_pw h2
    have e : leStr p x = true := by
      rw [ltCps_eq] at h1
      simp only [Bool.not_eq_true', decide_eq_false_iff_not] at h1
      exact decide_eq_true (List.not_lt.mp h1)
    refine List.pairwise_cons.mpr ⟨fun y hy => ?_, i⟩
    rcases List.mem_cons.mp hy with rfl | hy
    · exact e
    · exact leStr_trans _ _ _ e ((List.pairwise_cons.mp i).1 y hy)
theorem sorted_pw {l : List Str} (h : sortedS l = true) : l.Pairwise fun a b => leStr a b = true := by
  cases l with
  | nil => exact List.Pairwise.nil
  | cons x r => exact rising_pw h
theorem reps_strs {K : PySem.W.Frag} {μ : List Addr} {H : Hp} : ∀ (l : List Str), Reps K μ H (l.map D.str) (l.map V.str)
  | [] => rfl
  | x :: r => ⟨.str x, _, rfl, rfl, reps_strs r⟩
theorem b_sorted (hu : X.A.units + 100 < cLine) (hc : X.calm = true) : CallR X (.builtin "sorted") (rN (gX X ca) E (bfD .sorted)) := by
  intro pins s σ H xs us Q I r h
  obtain ⟨μ, S, ds, rl, hr, p⟩ := h
  match ds, hr, p with
  | [d], hr, p =>
    obtain ⟨v, rfl, h1⟩ := args1 hr
    obtain ⟨u, rfl, rv⟩ := vals1 r
    have p : Post _ E (sortO d S) μ H _ := p
    unfold sortO at p
    cases hl : listOf S d with
    | some zs =>
      rw [hl] at p
      have p : Post _ E (match sortD S zs with | some ys => newC (.lst ys) S | none => .bad) μ H _ := p
      cases hs : sortD S zs with
      | none => rw [hs] at p; exact p.elim
      | some ys =>
        rw [hs] at p
        obtain ⟨a, vs, rfl, g1, g2⟩ := list_list I rl h1 hl
        cases rv
        exact sort_list hu I rl g1 g2 hs fun q ws hn hw => Post.lst p rl hw hn
    | none =>
      rw [hl] at p
      cases d with
      | loc n =>
        have p : Post _ E (match S[n]? with
          | some (.dct _ kvs) => match strKeys (kvs.map (·.1)) with
            | some ks => if ks.length < 64 then newC (.lst ((sortS ks).map .str)) S else .bad
            | none => .bad
          | _ => .bad) μ H _ := p
        split at p
        · rename_i lk kvs hs
          cases hk : strKeys (kvs.map (·.1)) with
          | none => rw [hk] at p; exact p.elim
          | some ks =>
            rw [hk] at p
            have p : Post _ E (if ks.length < 64 then newC (.lst ((sortS ks).map D.str)) S else .bad) μ H _ := p
            by_cases c : ks.length < 64
            · rw [if_pos c] at p
              obtain ⟨a, ha, rfl⟩ := h1
              obtain ⟨kv, g1, g2, g3⟩ := rl.at_ n a _ ha hs
              have rd : Rd H a (.dK kv) := by
                cases lk with
                | true => exact .inr g1
                | false => exact .inl g1
              refine call_of (call_sortedD hc) I r ⟨a, kv, ks, rfl, rd, g2.symm.trans (strKeys_eq hk), c, fun ys q hp hso hn => ?_⟩
              have e : ys = sortS ks := sorted_uniq (hp.trans (sortS_perm ks).symm) (sorted_pw hso) (sortS_sorted ks)
              rw [e]
              exact Post.lst p rl (reps_strs _) hn
            · rw [if_neg c] at p
              exact p.elim
        · exact p.elim
      | _ => exact p.elim
  | [], _, p => exact p.elim
  | _ :: _ :: _, _, p => exact p.elim
/-! ### dict of pairs -/
theorem pairsOf_cons {x : D} {xs : List D} {ps : List (Key × D)} (h : pairsOf (x :: xs) = some ps) : ∃ k d q ps', x = .tup [k, d] ∧ D.key? k = some q ∧ pairsOf xs = some ps' ∧ ps = (q, d) :: ps' := by
  unfold pairsOf at h
  split at h
  · rename_i e
    cases e
  · rename_i k v r e
    cases e
    split at h
    · cases h
      exact ⟨k, v, _, _, rfl, by assumption, by assumption, rfl⟩
    · cases h
  · cases h
theorem pairs_rd {pins : List (Addr × Obj)} {s : Shared} {σ : L2.St} {H : Hp} {μ : List Addr} (I : Inv X pins σ H s) : ∀ {xs : List D} {vs : List V} {us : List Value} {ps : List (Key × D)}, Reps X.K μ H xs vs → Vals vs us → pairsOf xs = some ps →
    ∃ (Tl : List Addr) (pv : List (Value × Value)) (kv : List (L2.Key × V)) (kw : List (L2.Key × Value)), us = Tl.map Value.ref ∧ pv.length = Tl.length ∧ kw.length = Tl.length ∧ KV kv kw ∧ ps.map (·.1) = kv.map (·.1) ∧ Reps X.K μ H (ps.map (·.2)) (kv.map (·.2)) ∧
      ∀ (j : Nat) (T : Addr), Tl[j]? = some T → ∃ k a b, pv[j]? = some (a, b) ∧ kw[j]? = some (k, b) ∧ keyIs k a = true ∧ s.heap.IsTuple T #[a, b]
  | [], vs, us, ps, hr, hv, e => by
    obtain rfl : vs = [] := hr
    cases hv
    cases e
    exact ⟨[], [], [], [], rfl, rfl, rfl, .nil, rfl, rfl, fun j T h => by simp at h⟩
  | x :: xs, vs, us, ps, hr, hv, e => by
    obtain ⟨v, r, rfl, h1, h2⟩ := hr
    cases hv with
    | cons rv rr =>
      obtain ⟨k, d, q, ps', rfl, hk, hp, rfl⟩ := pairsOf_cons e
      obtain ⟨T, tv, rfl, t1, t2⟩ := h1
      obtain ⟨v1, v2, rfl, w1, w2⟩ := args2 t2
      cases rv
      obtain ⟨its, iv, ip, _⟩ := I.tuple t1.sq
      obtain ⟨u1, u2, rfl, r1, r2⟩ := vals2 iv
      obtain ⟨Tl, pv, kv, kw, rfl, l1, l2, q1, q2, q3, q4⟩ := pairs_rd I h2 rr hp
      obtain rfl : v1 = kV q := key_rep hk w1
      refine ⟨T :: Tl, (u1, u2) :: pv, (q, v2) :: kv, (q, u2) :: kw, rfl, congrArg (· + 1) l1, congrArg (· + 1) l2, .cons ⟨rfl, r2⟩ q1, by simp [q2], ⟨v2, _, rfl, w2, q3⟩, fun j T' hj => ?_⟩
      cases j with
      | zero =>
        cases hj
        exact ⟨q, u1, u2, rfl, rfl, kV_is (P := X.prog) (w := X.w) r1, ip⟩
      | succ j => exact q4 j T' (by simpa using hj)
theorem putA_mem {κ β : Type} [DecidableEq κ] {k x : κ} {v : β} : ∀ {l : List (κ × β)}, x ∈ (putA k v l).map (·.1) → x = k ∨ x ∈ l.map (·.1)
  | [], h => by
    rcases List.mem_cons.mp h with h | h
    · exact .inl h
    · cases h
  | (a, b) :: r, h => by
    unfold putA at h
    split at h
    · exact .inr h
    · rcases List.mem_cons.mp h with h | h
      · exact .inr (h ▸ List.mem_cons_self)
      · rcases putA_mem h with h | h
        · exact .inl h
        · exact .inr (List.mem_cons_of_mem _ h)
theorem putA_nd {κ β : Type} [DecidableEq κ] {k : κ} {v : β} : ∀ {l : List (κ × β)}, (l.map (·.1)).Nodup → ((putA k v l).map (·.1)).Nodup
  | [], _ => by simp [putA]
  | (a, b) :: r, h => by
    obtain ⟨h1, h2⟩ := List.nodup_cons.mp h
    unfold putA
    split
    · exact h
    · rename_i e
      refine List.nodup_cons.mpr ⟨fun z => ?_, putA_nd h2⟩
      rcases putA_mem z with z | z
      · exact e z
      · exact h1 z
theorem from_rep {K : PySem.W.Frag} {μ : List Addr} {H : Hp} : ∀ {ps : List (Key × D)} {kv : List (L2.Key × V)} {acc : List (Key × D)} {ak : List (L2.Key × V)}, ps.map (·.1) = kv.map (·.1) → Reps K μ H (ps.map (·.2)) (kv.map (·.2)) → acc.map (·.1) = ak.map (·.1) → Reps K μ H (acc.map (·.2)) (ak.map (·.2)) → (ak.map (·.1)).Nodup →
    (fromPairs acc ps).map (·.1) = (mergeK ak kv).map (·.1) ∧ Reps K μ H ((fromPairs acc ps).map (·.2)) ((mergeK ak kv).map (·.2))
  | [], [], _, _, _, _, e, h, _ => ⟨e, h⟩
  | [], _ :: _, _, _, e, _, _, _, _ => by cases e
  | _ :: _, [], _, _, e, _, _, _, _ => by cases e
  | (k, d) :: ps, (k', v) :: kv, acc, ak, e, h, ea, ha, nd => by
    obtain ⟨e1, e2⟩ := List.cons.inj e
    have e1 : k = k' := e1
    subst e1
    obtain ⟨v2, r, ev, h1, h2⟩ := h
    obtain ⟨rfl, rfl⟩ := List.cons.inj ev
    obtain ⟨p1, p2⟩ := put_rep (k := k) h1 ea ha nd
    refine from_rep (acc := putA k d acc) (ak := putK ak k v) e2 h2 p1 p2 ?_
    rw [← ea] at nd
    exact p1 ▸ putA_nd nd
theorem dict_fin {pins : List (Addr × Obj)} {s : Shared} {σ : L2.St} {H : Hp} {h' : Heap} {tk : Nat} {μ : List Addr} {S : Store} {ps : List (Key × D)} {kv : List (L2.Key × V)} {kw : List (L2.Key × Value)} {Q : VK} (I : Inv X pins σ H s) (rl : Rel (gX X ca) μ S H) (q1 : KV kv kw) (q2 : ps.map (·.1) = kv.map (·.1)) (q3 : Reps X.K μ H (ps.map (·.2)) (kv.map (·.2)))
    (hz : kw.length ≤ sizeLine) (hd : h'.DictOf (mixKind X.prog X.w) s.heap.objs.size (merged [] kw)) (k : ∀ b o, s.heap.get? b = some o → h'.get? b = some o)
    (p : Post (gX X ca) E (newC (.dct false (fromPairs [] ps)) S) μ H fun d _ μ' H' => ∀ v, Rep X.K μ' H' d v → Q v H') : EP X pins σ Q (.ref s.heap.objs.size) { s with heap := h', toks := tk } := by
  obtain ⟨z1, z2⟩ := from_rep (acc := []) (ak := []) q2 q3 rfl (show Reps X.K μ H [] [] from rfl) List.nodup_nil
  have hn : H s.heap.objs.size = none := I.hok.fresh (Nat.le_refl _)
  have hm : (s.heap.objs.size == sysModules) = false := beq_eq_false_iff_ne.mpr (Nat.ne_of_gt I.big)
  have hlen : (mergeK [] kv).length ≤ sizeLine := by
    have := length_mergeK kv []
    have := Paired.length q1
    simp at *
    omega
  have key := Post.new p rl hn (p := s.heap.objs.size) (o := .dK (mergeK [] kv)) ⟨_, upd_same, z1, Reps.mono (Ext.new hn) z2⟩
  exact ⟨.ref s.heap.objs.size, _, I.laid (t' := tk) k (Nat.le_refl _) (show ObjOk X.prog X.w _ _ _ (.dK (mergeK [] kv)) from ⟨hlen, hm, merged [] kw, KV.merge q1 .nil, hd⟩), rfl, key _ (Rep.newLoc rl.len.symm)⟩
theorem items_ok {h : Heap} {Tl : List Addr} {pv : List (Value × Value)} {kw : List (L2.Key × Value)} (l1 : pv.length = Tl.length) (q4 : ∀ (j : Nat) (T : Addr), Tl[j]? = some T → ∃ k a b, pv[j]? = some (a, b) ∧ kw[j]? = some (k, b) ∧ keyIs k a = true ∧ h.IsTuple T #[a, b]) :
    PySem.PairItems h (Tl.map Value.ref).toArray (fun j => (Tl[j]?).getD 0) pv := by
  refine ⟨by simp [l1], fun j k v e => ?_⟩
  have hj : j < Tl.length := by rw [← l1]; exact (List.getElem?_eq_some_iff.mp e).1
  have ej : Tl[j]? = some Tl[j] := List.getElem?_eq_getElem hj
  obtain ⟨q, a, b, e1, _, _, ht⟩ := q4 j _ ej
  rw [e1] at e
  cases e
  refine ⟨by simp [ej], ?_⟩
  show PySem.PairAt h ((Tl[j]?).getD 0) k v
  rw [ej]
  exact .inl ht
theorem have_ok {P : Program} {w : World} {h : Heap} {Tl : List Addr} {pv : List (Value × Value)} {kw : List (L2.Key × Value)} (l1 : pv.length = Tl.length) (l2 : kw.length = Tl.length) (q4 : ∀ (j : Nat) (T : Addr), Tl[j]? = some T → ∃ k a b, pv[j]? = some (a, b) ∧ kw[j]? = some (k, b) ∧ keyIs k a = true ∧ h.IsTuple T #[a, b]) :
    PySem.PairsHave (mixKind P w) pv.length (PySem.PairRel pv) kw := by
  refine ⟨by rw [l1, l2], fun i key v e => ?_⟩
  have e : pv[i]? = some (key, v) := e
  have hj : i < Tl.length := by rw [← l1]; exact (List.getElem?_eq_some_iff.mp e).1
  obtain ⟨q, a, b, e1, e2, e3, _⟩ := q4 i _ (List.getElem?_eq_getElem hj)
  rw [e1] at e
  cases e
  exact ⟨q, e2, e3⟩
theorem b_dict (hc : X.calm = true) : CallR X (.type "dict") (rN (gX X ca) E (bfD .dict)) := by
  intro pins s σ H xs us Q I r h
  obtain ⟨μ, S, ds, rl, hr, p⟩ := h
  match ds, hr, p with
  | [d], hr, p =>
    obtain ⟨v, rfl, h1⟩ := args1 hr
    obtain ⟨u, rfl, rv⟩ := vals1 r
    have p : Post _ E (match (seqOf S d).bind pairsOf with
      | some ps => newC (.dct false (fromPairs [] ps)) S
      | none => .bad) μ H _ := p
    cases hs : seqOf S d with
    | none => rw [hs] at p; exact p.elim
    | some zs =>
      rw [hs] at p
      have p : Post _ E (match pairsOf zs with
        | some ps => newC (.dct false (fromPairs [] ps)) S
        | none => .bad) μ H _ := p
      cases hp : pairsOf zs with
      | none => rw [hp] at p; exact p.elim
      | some ps =>
        rw [hp] at p
        have pfin := p
        have lists : ∀ a vs, v = .ref a → SqL X.K H a vs → Reps X.K μ H zs vs → wpAny (model X.prog X.w) X.A (call (.type "dict") [u]) (EP X pins σ Q) X.xe s := fun a vs ev g1 g2 => by
          subst ev
          cases rv
          obtain ⟨its, iv, pl, hz⟩ := I.list g1
          obtain ⟨Tl, pv, kv, kw, rfl, l1, l2, q1, q2, q3, q4⟩ := pairs_rd I g2 iv hp
          obtain ⟨o, n, ho, hcl, hd, hdat⟩ := pl
          refine PySem.call_dict_pairs (knd := mixKind X.prog X.w) (PySem.PairArg.list a _ _ pv) (I.ok.hd hc) ⟨⟨o, n, ho, hcl, hd, hdat⟩, items_ok l1 q4⟩ (have_ok l1 l2 q4) (by have := iv.length; rw [List.length_map] at this; omega) fun h' tk hd' k => ?_
          exact dict_fin I rl q1 q2 q3 (by have := iv.length; rw [List.length_map] at this; omega) hd' (fun b o e => k b o (by simp) e) pfin
        cases d with
        | tup ys =>
          obtain ⟨a, vs, rfl, g1, g2⟩ := h1
          cases hs
          cases rv
          obtain ⟨its, iv, pl, hz⟩ := I.tuple g1.sq
          obtain ⟨Tl, pv, kv, kw, rfl, l1, l2, q1, q2, q3, q4⟩ := pairs_rd I g2 iv hp
          obtain ⟨oo, g3, g4⟩ := g1
          obtain ⟨e5, _⟩ := I.hok a _ g3
          obtain ⟨o, ho, hcl, n, hdat⟩ := pl
          rw [e5] at ho
          cases ho
          refine PySem.call_dict_pairs (knd := mixKind X.prog X.w) (PySem.PairArg.tuple a _ _ pv) (I.ok.hd hc) ⟨⟨oo, n, e5, hcl, g4, hdat⟩, items_ok l1 q4⟩ (have_ok l1 l2 q4) (by have := iv.length; rw [List.length_map] at this; omega) fun h' tk hd' k => ?_
          exact dict_fin I rl q1 q2 q3 (by have := iv.length; rw [List.length_map] at this; omega) hd' (fun b o e => k b o (by simp) e) pfin
        | rol ys =>
          obtain ⟨a, vs, rfl, g1, g2⟩ := h1
          cases hs
          exact lists a vs rfl g1.sq g2
        | loc n =>
          obtain ⟨a, vs, rfl, g1, g2⟩ := list_list I rl h1 (show listOf S (.loc n) = some zs from hs)
          exact lists a vs rfl g1 g2
        | _ => cases hs
  | [], _, p => exact p.elim
  | _ :: _ :: _, _, p => exact p.elim
/-! ### repr -/
theorem b_repr (hu : X.A.units + 100 < cLine) (hg : X.A.guards = some []) : CallR X (.builtin "repr") (rN (gX X ca) E (bfD .repr)) := by
  intro pins s σ H xs us Q I r h
  obtain ⟨μ, S, ds, rl, hr, p⟩ := h
  match ds, hr, p with
  | [d], hr, p =>
    obtain ⟨v, rfl, h1⟩ := args1 hr
    obtain ⟨u, rfl, rv⟩ := vals1 r
    have p : Post _ E (ok? ((reprD S d).map D.str) S) μ H _ := p
    obtain ⟨z, ez, q⟩ := p.ok? rl
    obtain ⟨x, ex, rfl⟩ := Option.map_eq_some_iff.mp ez
    unfold reprD at ex
    split at ex
    · rename_i y hy
      split at ex
      · rename_i c
        cases ex
        unfold reprOk at c
        simp only [Bool.and_eq_true, decide_eq_true_eq, Bool.not_eq_true'] at c
        obtain ⟨⟨c1, c2⟩, c3⟩ := c
        have dp := dp_of rl 8 d v y hy h1
        have fin : ∀ tk, EP X pins σ Q (.str y.shown tk) { s with toks := s.toks + 1 } := fun tk => ⟨.str y.shown, H, I.tok _, ⟨tk, rfl⟩, q _ rfl⟩
        obtain ⟨as, rd⟩ := Dp.reads I y v u dp rv
        cases dp with
        | non =>
          cases rv
          exact PySem.P.repr_of_none (fin _)
        | bl b =>
          cases rv
          exact PySem.P.repr_of_bool (fin _)
        | int i =>
          obtain ⟨t, rfl⟩ := rv
          exact PySem.P.repr_of_int (of_decide_eq_true c1) (fin _)
        | str w =>
          obtain ⟨t, rfl⟩ := rv
          exact PySem.P.repr_of_str (fin _) c3
        | _ =>
          cases rv
          refine repr_of_reads' rd c1 (fun z => by rw [c2] at z; cases z) hg (by have := (plain_of 8 d _ hy).2.1; omega) (fun _ _ e => e) (fun h' u tk hk => ?_) c3
          exact ⟨.str _, H, I.kept (t' := tk) hk, ⟨u, rfl⟩, q _ rfl⟩
      · cases ex
    · cases ex
  | [], _, p => exact p.elim
  | _ :: _ :: _, _, p => exact p.elim
/-! ### {}, set() -/
theorem e_set0 {x : Str} {p pos : Pos} (hg : Gl X x) (hm : X.mg x = none) (hv : bootBuiltins x = some (.type "set")) (hn : x ≠ "__name__") (hd : (x == ("__debug__" : Str)) = false) : PE X (.Call (.Name x p) [] [] pos) (tE (gX X ca) E F .set0) := by
  refine PE.imp (pe_callTy0 cr_set0K hg hm hv hn hd) fun σ H Q q => ?_
  obtain ⟨μ, ρ, S, r, sl, p⟩ := q
  exact ⟨rfl, fun t ht => (Post.new (show Post _ E (newC (.set []) S) μ H _ from p) r ht ⟨upd_same, List.nodup_nil⟩) _ (Rep.newLoc r.len.symm)⟩
theorem e_dct0 {pos : Pos} : PE X (.Dict [] [] pos) (tE (gX X ca) E F (.dsp .nil .nil)) := by
  refine PE.imp pe_dnewK fun σ H Q q => ?_
  obtain ⟨μ, ρ, S, r, sl, p⟩ := q
  intro t ht
  have p : Post _ E ((evEs F .nil ρ S).bind fun ks S1 => (evEs F .nil ρ S1).bind fun vs S2 => match keys? ks with
    | some qs => if qs.length = vs.length then newC (.dct false (fromPairs [] (qs.zip vs))) S2 else .bad
    | none => .bad) μ H _ := p
  exact (Post.new (show Post _ E (newC (.dct false []) S) μ H _ from p) r ht ⟨[], upd_same, rfl, rfl⟩) _ (Rep.newLoc r.len.symm)
end
end Iv

set_option maxRecDepth 10000
/-! IvC: enumerate, zip of lists. -/
namespace Iv
open PySem PySem.Spec PyProof.Rows L2
abbrev enH (h : Heap) (o : Obj) : Heap := (h.push o).push { cls := .type "enumerate", data := .fields #[.none, .bool false, .ref h.objs.size, rawInt 0, .none, .none] }
set_option maxHeartbeats 1000000 in
theorem meets_enum1 {v : Value} {o : Obj} {H : Heap → Prop} (B : Begins v o H) :
    Meets (Builtin.«enumerate.__new__» ⟨[.type "enumerate", v], []⟩) (fun _ R s => H s.heap ∧ R (.ok (.ret (.ref (s.heap.push o).objs.size))) { s with heap := enH s.heap o }) :=
  .of_wp fun prog w A R s h => by
    obtain ⟨hp, g, d, tk, os⟩ := s
    obtain ⟨h1, h⟩ := h
    have hsub := sub_enumerate
    have q1 : ∀ {Av : Around} {Ev : Value → Shared → Prop} {Qv : Value → Shared → Prop}, Qv (.ref hp.objs.size) ⟨(hp.push o), g, d, tk, os⟩ →
        wpAny (model prog w) Av (pyIter v) Qv Ev ⟨hp, g, d, tk, os⟩ := fun q => B.iter prog w _ _ ⟨hp, g, d, tk, os⟩ _ h1 q
    wp_walk
    refine wpAny_stack_any fun st => wpAny_pure ?_
    split
    · rename_i c _ _ _ _ _
      cases (c == Value.type "enumerate")
      · wp_walk using q1
        exact ⟨_, rfl, h⟩
      · wp_walk using q1
        exact ⟨_, rfl, h⟩
    · wp_walk using q1
      exact ⟨_, rfl, h⟩
theorem call_enum1 {prog : Program} {w : World} {A : Around} {E : Value → Shared → Prop} {s : Shared} {v : Value} {o : Obj} {H : Heap → Prop} {Q : Value → Shared → Prop} (B : Begins v o H) (h1 : H s.heap)
    (h : ∀ h', IsEnum h' (s.heap.objs.size + 1) s.heap.objs.size 0 .none → h'.get? s.heap.objs.size = some o →
      (∀ b ob, s.heap.get? b = some ob → h'.get? b = some ob) → Q (.ref (s.heap.objs.size + 1)) { s with heap := h' }) :
    wpAny (model prog w) A (call (.type "enumerate") [v]) Q E s := by
  refine callType_new F.called_enumerate (by decide) (F.typeCall_enumerate_1 _) (F.newCall_enumerate_1 _)
    (fun obj => F.args_object_init_2 obj _) F.entry_enumerate_new (meets_enum1 B) ⟨h1, ?_⟩
  have z : (s.heap.push o).objs.size = s.heap.objs.size + 1 := by rw [Heap.size_push]
  have he : IsEnum (enH s.heap o) (s.heap.objs.size + 1) s.heap.objs.size 0 .none := by
    rw [← z]
    exact Heap.get?_push_size _ rfl
  show _ ∧ _
  rw [z]
  exact ⟨⟨_, he, rfl⟩, h _ he (Heap.get?_push_of_some _ (Heap.get?_push_size _ B.free)) fun b ob q => Heap.get?_push_of_some _ (Heap.get?_push_of_some _ q)⟩
/-- a tuple's items, each in a new pair -/
def IteT (K : PySem.W.Frag) (a : Addr) : It :=
  ⟨fun i H => ∃ (xs : List V) (x : V), SqT K H a xs ∧ xs[i]? = some x, fun i H v H' => ∃ T x, v = .ref T ∧ H T = none ∧ H' = upd H T (.tup [.int (i : Nat), x]) ∧ ∀ xs, SqT K H a xs → xs[i]? = some x, fun i H => ∃ xs : List V, SqT K H a xs ∧ xs.length ≤ i⟩
theorem turn_enumT {P : Program} {w : World} {K : PySem.W.Frag} {elts : List Expr} {kk : Nat} {tpos : Pos} (a e it : Addr) :
    Turn P w K (.Tuple elts kk tpos) (IteT K a) [e, it] e (fun i h => (∃ old, IsEnum h e it ((i : Nat) : Int) old) ∧ h.IsTupleIter it a i ∧ e ≠ it) where
  mem := by simp
  obj := fun i h st b hb => by
    obtain ⟨⟨old, he⟩, ⟨o, ho, hc, hd⟩, _⟩ := st
    rcases (show b = e ∨ b = it by simpa using hb) with rfl | rfl
    · exact ⟨_, he, fun v q => nomatch q⟩
    · exact ⟨o, ho, fun v q => by rw [hd] at q; cases q⟩
  keep := fun i h h' st k => by
    obtain ⟨⟨old, he⟩, hi, hne⟩ := st
    exact ⟨⟨old, k e (by simp) _ he⟩, hi.at fun o q => k it (by simp) o q, hne⟩
  item := by
    intro X hP hw hK hc i pins s σ H E I hf st hg
    subst hP hw hK
    obtain ⟨⟨old, he⟩, hit, hne⟩ := st
    obtain ⟨xs, x, hq, hx⟩ := hg
    obtain ⟨its, rv, p, hz⟩ := I.tuple hq
    obtain ⟨u, hu, ru⟩ := rv.get hx
    have hel : e < s.heap.objs.size := Heap.lt_size he
    have hil : it < s.heap.objs.size := by
      obtain ⟨_, q, _⟩ := hit
      exact Heap.lt_size q
    have hna : a ≠ it := fun z => by
      obtain ⟨o1, g1, g2, _⟩ := hit
      obtain ⟨o2, g3, g4, _⟩ := p
      rw [z, g1] at g3
      cases g3
      rw [g2] at g4
      injection g4 with q
      exact absurd q (by decide)
    have hea : e ≠ a := fun z => by
      obtain ⟨o2, g3, g4, _⟩ := p
      rw [← z] at g3
      have g5 := he.symm.trans g3
      cases g5
      injection g4 with q
      exact absurd q (by decide)
    have D := Draws.tuple (prog := X.prog) (w := X.w) (A := X.A.in1) (I.ok.hd hc) it a hna its.toArray
    refine wpAny_pyNext_enum_itemD D he ⟨hit, p⟩ (i := i) (by have := (List.getElem?_eq_some_iff.mp hu).1; simpa using this) hne (by simp [hne, hea]) fun y h' tk hy ho st' hT hsz hk => ?_
    have ey : y = u := by
      have hy : its.toArray[i]? = some y := hy
      have : its[i]? = some y := by simpa using hy
      rw [hu] at this
      exact (Option.some.inj this).symm
    subst ey
    refine ⟨_, rfl, wpAny_letOwnedTupleGo_enum (s := { s with heap := h', toks := tk + 1 }) ho fun h'' he' sb => ?_⟩
    have hT2 : h''.get? s.heap.objs.size = some { cls := .type "tuple", data := .seq #[.int i tk, y] } := (sb.2 _ (Nat.ne_of_gt hel)).trans hT
    have new : ObjOk X.prog X.w (upd H s.heap.objs.size (.tup [.int (i : Nat), x])) h'' s.heap.objs.size (.tup [.int (i : Nat), x]) := by
      refine ⟨by show 2 ≤ sizeLine; decide, [.int i tk, y], .cons ⟨_, rfl⟩ (.cons ru .nil), ?_⟩
      exact ⟨_, hT2, rfl, _, rfl⟩
    have I1 := I.turnedNew (t' := tk + 1) (ch := [e, it]) (fun b ob hb q => (sb.2 b (fun z => hb (by simp [z]))).trans (hk b ob (fun z => hb (by simp [z])) (fun z => hb (by simp [z])) q)) hf (Nat.le_refl _) new
    refine ⟨.ref s.heap.objs.size, _, I1, rfl, ⟨_, x, rfl, I.hok.fresh (Nat.le_refl _), rfl, fun ys hy => by rw [I.tuple_inj hy hq]; exact hx⟩, ⟨⟨y, he'⟩, st'.1.at fun o q => (sb.2 it (Ne.symm hne)).trans q, hne⟩, fun b hb => ?_⟩
    have hb' : b < s.heap.objs.size := by
      rcases (show b = e ∨ b = it by simpa using hb) with rfl | rfl
      · exact hel
      · exact hil
    rw [upd_ne (Nat.ne_of_lt hb')]
    exact (hf b hb).1
  done := by
    intro X hP hw hK hc i pins s σ H E I hf st hg
    subst hP hw hK
    obtain ⟨⟨old, he⟩, hit, hne⟩ := st
    obtain ⟨xs, hq, hx⟩ := hg
    obtain ⟨its, rv, p, hz⟩ := I.tuple hq
    obtain ⟨f0, f1, f2, f3, f4, f5⟩ := hf it (by simp)
    have hl := rv.length
    have hna : a ≠ it := fun z => by
      obtain ⟨o1, g1, g2, _⟩ := hit
      obtain ⟨o2, g3, g4, _⟩ := p
      rw [z, g1] at g3
      cases g3
      rw [g2] at g4
      injection g4 with q
      exact absurd q (by decide)
    have D : Draws X.prog X.w X.A.in1 it [it, a] i (fun _ _ => True) (fun j h => j = i ∧ h.IsTupleIter it a i ∧ h.IsTuple a its.toArray) :=
      { live := fun _ _ q => let ⟨o, ho, _⟩ := q.2.1; ⟨o, ho⟩
        frame := fun _ _ _ q k => ⟨q.1, q.2.1.at fun o e => k it (by simp) o e, q.2.2.at fun o e => k a (by simp) o e⟩
        item := fun j _ _ _ hj q _ => absurd q.1 (Nat.ne_of_lt hj)
        done := fun _ _ _ q hE => wpAny_nextOf_tuple_end (I.ok.hd hc) q.2.1 q.2.2 (by simp; omega) hE }
    refine wpAny_pyNext_enum_endD D he ⟨rfl, hit, p⟩ fun h' eb => ?_
    exact ⟨rfl, I.turned (t' := s.toks) (fun b o hb q => eb b o hb q) f0 f1 f3 f4 f5⟩
  self := fun A i s Q E st h => by
    obtain ⟨⟨_, he⟩, _⟩ := st
    exact wpAny_pyIter_enum he h
section
variable {X : Cx} {ca : Nat → Addr} {E : XK} {F : Fns} {ts : ITs}
theorem it_enum {μ1 : List Addr} {H1 : Hp} {S1 : Store} {d : D} {a : Addr} {xs : List D} (r1 : Rel (gX X ca) μ1 S1 H1) (hd : Rep X.K μ1 H1 d (.ref a)) (hs : seqOf S1 d = some xs) (nt : ∀ ys, d ≠ .tup ys) : ItOk (gX X ca) (.tup ts) (Ite X.K a) (enumL 0 xs) (srcOf d xs) μ1 H1 := by
  have key : ∀ μ' S' H', Ext X.K μ1 μ' H1 H' → Rel (gX X ca) μ' S' H' → (srcOf d xs).ok S' = true → ∃ vs, SqL X.K H' a vs ∧ Reps X.K μ' H' xs vs := fun μ' S' H' e r ok => by
    have z := src_at r1 hd hs e r ok
    obtain ⟨a', vs, ea, h1, h2⟩ := r.seqOf (hd.mono e) z
    cases ea
    cases d with
    | tup ys => exact absurd rfl (nt ys)
    | rol ys =>
      obtain ⟨b, vs, eb, h3, h4⟩ := hd.mono e
      cases eb
      cases hs
      exact ⟨vs, h3.sq, h4⟩
    | loc n =>
      have z : lstAt S' n = some xs := z
      unfold lstAt at z
      split at z
      · rename_i ys hy
        cases z
        obtain ⟨b, vs, _, eb, h3, h4⟩ := r.lstAt (hd.mono e) hy
        cases eb
        exact ⟨vs, .of h3, h4⟩
      · cases z
    | _ => cases hs
  refine ⟨fun i x μ' S' H' e r ok hi => ?_, fun μ' S' H' i e r ok hi => ?_⟩
  · rw [enumL_at] at hi
    obtain ⟨y, hy, rfl⟩ := Option.map_eq_some_iff.mp hi
    obtain ⟨vs, h1, h2⟩ := key μ' S' H' e r ok
    obtain ⟨v, e1, e2⟩ := h2.get hy
    refine ⟨⟨vs, v, h1, e1⟩, fun w H2 yy => ?_⟩
    obtain ⟨T, x, rfl, hT, rfl, hx⟩ := yy
    have : v = x := Option.some.inj (e1.symm.trans (hx vs h1))
    subst this
    obtain ⟨f1, f2, f3⟩ := pair_new (ts := ts) (d := .int (0 + (i : Int))) (x := .int (i : Nat)) r hT (by rw [Int.zero_add]; rfl) e2
    exact ⟨f1, f2, f3⟩
  · obtain ⟨vs, h1, h2⟩ := key μ' S' H' e r ok
    rw [enumL_len] at hi
    exact ⟨vs, h1, by rw [← h2.length]; exact hi⟩
theorem it_enumT {μ1 : List Addr} {H1 : Hp} {a : Addr} {xs : List D} {vs : List V} (h : TupAt H1 a vs) (hr : Reps X.K μ1 H1 xs vs) : ItOk (gX X ca) (.tup ts) (IteT X.K a) (enumL 0 xs) .free μ1 H1 := by
  refine ⟨fun i x μ' S' H' e r ok hi => ?_, fun μ' S' H' i e r ok hi => ?_⟩
  · rw [enumL_at] at hi
    obtain ⟨y, hy, rfl⟩ := Option.map_eq_some_iff.mp hi
    obtain ⟨v, e1, e2⟩ := (hr.mono e).get hy
    refine ⟨⟨vs, v, (e.tups a vs h).sq, e1⟩, fun w H2 yy => ?_⟩
    obtain ⟨T, x, rfl, hT, rfl, hx⟩ := yy
    have : v = x := Option.some.inj (e1.symm.trans (hx vs (e.tups a vs h).sq))
    subst this
    exact pair_new (ts := ts) (d := .int (0 + (i : Int))) (x := .int (i : Nat)) r hT (by rw [Int.zero_add]; rfl) e2
  · rw [enumL_len] at hi
    exact ⟨vs, (e.tups a vs h).sq, by rw [← hr.length]; exact hi⟩
/-- enumerate(e), e a list or a tuple -/
theorem i_enum {e : Expr} {ie : IE} {p pos tpos : Pos} {elts : List Expr} {kk : Nat} (hg : Gl X "enumerate") (hm : X.mg "enumerate" = none) (he : PE X e (tE (gX X ca) E F ie)) (hs : nst e = true) :
    PI X (.Tuple elts kk tpos) (.Call (.Name "enumerate" p) [e] [] pos) (tI (gX X ca) E F (.tup ts) (.enum ie)) := by
  refine ⟨fun pins s σ H R I q => ?_⟩
  obtain ⟨μ, ρ, S, r, sl, p0⟩ := q
  have p0 : Post _ E ((evE F ie ρ S).bind fun x S1 => match seqOf S1 x with | some xs => .ok (enumL 0 xs, srcOf x xs) S1 | none => .bad) μ H _ := p0
  have ha : PA X [e] (tEs (gX X ca) E F (.cons ie .nil)) := a_cons he a_nil hs
  have q1 : tEs (gX X ca) E F (.cons ie .nil) σ H fun vs H1 => ∃ x μ1 S1 d xs, vs = [x] ∧ Rel (gX X ca) μ1 S1 H1 ∧ Rep X.K μ1 H1 d x ∧ seqOf S1 d = some xs ∧ ∀ J, ItOk (gX X ca) (.tup ts) J (enumL 0 xs) (srcOf d xs) μ1 H1 → R J H1 := by
    refine ⟨μ, ρ, S, r, sl, ?_⟩
    show Post _ E ((evE F ie ρ S).bind fun d S1 => (Out.ok ([] : List Iv.D) S1).bind fun ds S2 => .ok (d :: ds) S2) μ H _
    cases ho : evE F ie ρ S with
    | ok d S1 =>
      rw [ho] at p0
      have p0 : Post _ E (match seqOf S1 d with | some xs => .ok (enumL 0 xs, srcOf d xs) S1 | none => .bad) μ H _ := p0
      intro μ1 H1 e1 r1 vs hv
      obtain ⟨v, rfl, hv1⟩ := args1 hv
      cases hs : seqOf S1 d with
      | none => rw [hs] at p0; exact p0.elim
      | some xs =>
        rw [hs] at p0
        exact ⟨v, μ1, S1, d, xs, rfl, r1, hv1, hs, p0 μ1 H1 e1 r1⟩
    | ex c fs S1 => rw [ho] at p0; exact p0
    | bad => rw [ho] at p0; exact p0
  refine Call_ (ld_blt I hg hm boot_enumerate (PyProof.Rows.callWith_type1 (thn (ha.run pos pins s σ H _ I q1) fun us s1 ⟨vs, H1, I1, rv, x, μ1, S1, d, xs, ev, r1, hx, hw, hR⟩ => ?_) (star_cons hs) rfl))
  subst ev
  obtain ⟨u, rfl, ru⟩ := vals1 rv
  have fr : ∀ b, b ∈ [s1.heap.objs.size + 1, s1.heap.objs.size] → FpOk X pins H1 b := fun b hb => by
    have hle : s1.heap.objs.size ≤ b := by
      rcases (show b = s1.heap.objs.size + 1 ∨ b = s1.heap.objs.size by simpa using hb) with z | z
      · rw [z]; exact Nat.le_add_right _ _
      · rw [z]; exact Nat.le_refl _
    exact I1.fpOk hle (I1.hok.fresh hle)
  have lists : (∀ ys, d ≠ .tup ys) → listOf S1 d = some xs → wpAny (model X.prog X.w) X.A (call (.type "enumerate") [u]) (fun v s2 => wpAny (model X.prog X.w) X.A (pyIter v) (PIE X pins σ (.Tuple elts kk tpos) R) X.xe s2) X.xe s1 := fun nt hl => by
    obtain ⟨a, vs, rfl, h1, h2⟩ := list_list I1 r1 hx hl
    cases ru
    obtain ⟨its, iv, pl, hz⟩ := I1.list h1
    refine call_enum1 (begins_list a its.toArray) pl.isList fun h' hen hit hk => wpAny_pyIter_enum hen ?_
    exact ⟨s1.heap.objs.size + 1, [s1.heap.objs.size + 1, s1.heap.objs.size], _, _, H1, rfl, I1.kept (t' := s1.toks) hk, turn_enum a _ _, ⟨⟨.none, hen⟩, ⟨_, hit, rfl, rfl⟩, Nat.succ_ne_self _⟩, fr, hR _ (it_enum r1 hx hw nt)⟩
  cases d with
  | tup ys =>
    obtain ⟨a, vs, rfl, h1, h2⟩ := hx
    cases hw
    cases ru
    obtain ⟨its, iv, pl, hz⟩ := I1.tuple h1.sq
    refine call_enum1 (begins_tuple a its.toArray) (show s1.heap.IsTuple a its.toArray from pl) fun h' hen hit hk => wpAny_pyIter_enum hen ?_
    exact ⟨s1.heap.objs.size + 1, [s1.heap.objs.size + 1, s1.heap.objs.size], _, _, H1, rfl, I1.kept (t' := s1.toks) hk, turn_enumT a _ _, ⟨⟨.none, hen⟩, ⟨_, hit, rfl, rfl⟩, Nat.succ_ne_self _⟩, fr, hR _ (it_enumT h1 h2)⟩
  | rol ys => exact lists (fun _ z => nomatch z) hw
  | loc n => exact lists (fun _ z => nomatch z) hw
  | _ => cases hw
end
end Iv

set_option maxRecDepth 10000
/-! IvD: list comprehensions with two fors. -/
namespace Iv
open PySem PySem.Spec PyProof.Rows L2
section
variable {X : Cx} {ca : Nat → Addr} {E : XK} {F : Fns}
/-- a for's turns, within a comprehension whose list stands at n: what is to follow is k -/
theorem inner_read {ie : IE} {t : IT} {c : IO} {ρ : Env} {src : Src} {items : List D} {n : Nat} {Dn : Addr} {k : Store → Out D} {μ1 : List Addr} {H1 : Hp} {S1 : Store} {σ : L2.St} {Q : VK} {J : It} {Nx : Hp → Prop}
    (ok : ItOk (gX X ca) t J items src μ1 H1) (hn0 : μ1[n]? = some Dn) (sl : Slots X.K μ1 H1 σ ρ) (r1 : Rel (gX X ca) μ1 S1 H1)
    (p1 : Post (gX X ca) E ((loopC src (turnC F ie t c ρ) n items S1).bind fun _ S5 => k S5) μ1 H1 fun d _ μ' H' => ∀ v, Rep X.K μ' H' d v → Q v H')
    (hN : ∀ μ' S' H', Ext X.K μ1 μ' H1 H' → Rel (gX X ca) μ' S' H' → Post (gX X ca) E (k S') μ' H' (fun d _ μ' H' => ∀ v, Rep X.K μ' H' d v → Q v H') → Nx H') :
    ∃ W1 : Nat → Nat → Hp → Prop, (∃ m, W1 0 m H1) ∧ ∀ j kk H, W1 j kk H →
      (J.stop j H ∧ Nx H) ∨ (J.go j H ∧ ∃ Nx1 : Hp → Prop, (∀ H', Nx1 H' → ∃ k', k' < kk ∧ W1 (j + 1) k' H') ∧ ∀ x H', J.yld j H x H' → gB (gX X ca) t x (wipe σ (slotsT t)) H' fun σ3 H5 => wipe σ3 (slotsT t) = wipe σ (slotsT t) ∧ tC (gX X ca) E0 F c σ3 H5 fun b H6 =>
        if b = true then tE (gX X ca) E0 F ie σ3 H6 fun y H7 => ∃ acc, H7 Dn = some (.lst acc) ∧ acc.length < sizeLine ∧ Nx1 (upd H7 Dn (.lst (acc ++ [y]))) else Nx1 H6) := by
  refine ⟨fun i m H => m = items.length - i ∧ ∃ μ' S', Ext X.K μ1 μ' H1 H ∧ Rel (gX X ca) μ' S' H ∧
    Post (gX X ca) E ((loopC src (turnC F ie t c ρ) n (items.drop i) S').bind fun _ S5 => k S5) μ' H fun d _ μ' H' => ∀ v, Rep X.K μ' H' d v → Q v H',
    ⟨items.length, by simp, μ1, S1, Ext.refl, r1, by rw [List.drop_zero]; exact p1⟩, ?_⟩
  rintro i m H2 ⟨rfl, μ2, S2, e2, r2, p2⟩
  cases hd : items.drop i with
  | nil =>
    rw [hd] at p2
    have hi : items.length ≤ i := List.drop_eq_nil_iff.mp hd
    have p2 : Post _ E ((if src.ok S2 = true then Out.ok () S2 else .bad).bind fun _ S5 => k S5) μ2 H2 _ := p2
    by_cases kk : src.ok S2 = true
    · rw [if_pos kk] at p2
      exact .inl ⟨ok.stop μ2 S2 H2 i e2 r2 kk hi, hN μ2 S2 H2 e2 r2 p2⟩
    · rw [if_neg kk] at p2
      exact p2.elim
  | cons x xs =>
    rw [hd] at p2
    have hi : i < items.length := by
      have : (items.drop i).length ≠ 0 := by rw [hd]; simp
      rw [List.length_drop] at this
      omega
    have hxi : items[i]? = some x := by
      have : (items.drop i)[0]? = some x := by rw [hd]; rfl
      simpa using this
    have hdx : items.drop (i + 1) = xs := by
      rw [← List.drop_drop, hd] <;> rfl
    have p2 : Post _ E ((if src.ok S2 = true then
      match turnC F ie t c ρ x S2 with
      | .ok (some d) S' => (gc S2 d S').bind fun d' S'' => match S''[n]? with
        | some (.lst acc) => if acc.length < sizeLine then loopC src (turnC F ie t c ρ) n xs (S''.set n (.lst (acc ++ [d']))) else .bad
        | _ => .bad
      | .ok none S' => (gc S2 .non S').bind fun _ S'' => loopC src (turnC F ie t c ρ) n xs S''
      | _ => .bad
    else .bad).bind fun _ S5 => k S5) μ2 H2 _ := p2
    by_cases kk : src.ok S2 = true
    · rw [if_pos kk] at p2
      obtain ⟨hgo, hyl⟩ := ok.go i x μ2 S2 H2 e2 r2 kk hxi
      refine .inr ⟨hgo, fun H' => ∃ μ' S', Ext X.K μ1 μ' H1 H' ∧ Rel (gX X ca) μ' S' H' ∧
        Post (gX X ca) E ((loopC src (turnC F ie t c ρ) n xs S').bind fun _ S5 => k S5) μ' H' fun d _ μ' H' => ∀ v, Rep X.K μ' H' d v → Q v H',
        fun H' q => ⟨items.length - (i + 1), by omega, rfl, by rw [hdx]; exact q⟩, fun v H3 y => ?_⟩
      obtain ⟨e3, r3, hv⟩ := hyl v H3 y
      cases hb : bindT t x (wipeE ρ (slotsT t)) with
      | none =>
        have ht : turnC F ie t c ρ x S2 = .bad := by unfold turnC; rw [hb]
        rw [ht] at p2
        exact p2.elim
      | some ρ' =>
        refine ⟨μ2, wipeE ρ (slotsT t), S2, x, ρ', r3, (wipe_slots (((sl.mono e2)).mono e3) _), hv, hb, fun σ2 s2 l2 k2 => ⟨wipe_same (by rw [l2, wipe_length]) k2, ?_⟩⟩
        have ht : turnC F ie t c ρ x S2 = (evC F c ρ' S2).bind fun k S3 => if k then (evE F ie ρ' S3).bind fun d S4 => .ok (some d) S4 else .ok none S3 := by unfold turnC; rw [hb]
        rw [ht] at p2
        cases hcv : evC F c ρ' S2 with
        | ok kb S3 =>
          rw [hcv] at p2
          refine ⟨μ2, ρ', S2, r3, s2, Post.anyE hcv fun μ4 H4 e4 r4 => ?_⟩
          have p2 : Post _ E (Out.bind (match (if kb = true then (evE F ie ρ' S3).bind fun d S4 => .ok (some d) S4 else .ok none S3) with
            | .ok (some d) S' => (gc S2 d S').bind fun d' S'' => match S''[n]? with
              | some (.lst acc) => if acc.length < sizeLine then loopC src (turnC F ie t c ρ) n xs (S''.set n (.lst (acc ++ [d']))) else .bad
              | _ => .bad
            | .ok none S' => (gc S2 .non S').bind fun _ S'' => loopC src (turnC F ie t c ρ) n xs S''
            | _ => .bad) fun _ S5 => k S5) μ2 H2 _ := p2
          cases kb with
          | false =>
            refine iteF ?_
            rw [if_neg Bool.false_ne_true] at p2
            obtain ⟨d2, S5, μ5, eg, q5⟩ := gc_ok (g := gX X ca) (d := .non) (v := .non) (Q := fun d2 S2' μ2' => Ext X.K μ2 μ2' H3 H4 ∧ Rel (gX X ca) μ2' S2' H4) r3 r4 e4 rfl fun d2 S2' μ2' _ e5 r5 _ => ⟨e5, r5⟩
            have p2 : Post _ E (((gc S2 .non S3).bind fun _ S'' => loopC src (turnC F ie t c ρ) n xs S'').bind fun _ S5 => k S5) μ2 H2 _ := p2
            rw [eg] at p2
            exact ⟨μ5, S5, e2.trans (e3.trans q5.1), q5.2, Post.pre (e3.trans q5.1) p2⟩
          | true =>
            refine iteT ?_
            rw [if_pos rfl] at p2
            cases hev : evE F ie ρ' S3 with
            | ok d S4 =>
              rw [hev] at p2
              refine ⟨μ4, ρ', S3, r4, s2.mono e4, Post.anyE hev fun μ5 H5 e5 r5 w hw => ?_⟩
              obtain ⟨d2, S6, μ6, eg, e6, r6, hw6⟩ := gc_ok (g := gX X ca) (Q := fun d2 S2' μ2' => Ext X.K μ2 μ2' H3 H5 ∧ Rel (gX X ca) μ2' S2' H5 ∧ Rep X.K μ2' H5 d2 w) r3 r5 (e4.trans e5) hw fun d2 S2' μ2' _ e5 r5 hw => ⟨e5, r5, hw⟩
              have p2 : Post _ E (((gc S2 d S4).bind fun d' S'' => match S''[n]? with
                | some (.lst acc) => if acc.length < sizeLine then loopC src (turnC F ie t c ρ) n xs (S''.set n (.lst (acc ++ [d']))) else .bad
                | _ => .bad).bind fun _ S5 => k S5) μ2 H2 _ := p2
              rw [eg] at p2
              have p2 : Post _ E ((match S6[n]? with
                | some (.lst acc) => if acc.length < sizeLine then loopC src (turnC F ie t c ρ) n xs (S6.set n (.lst (acc ++ [d2]))) else .bad
                | _ => .bad).bind fun _ S5 => k S5) μ2 H2 _ := p2
              have hn6 : μ6[n]? = some Dn := e6.at_ (e2.at_ hn0)
              split at p2
              · rename_i acc hacc
                obtain ⟨vs, h1, h2⟩ := r6.at_ _ Dn _ hn6 hacc
                by_cases cz : acc.length < sizeLine
                · rw [if_pos cz] at p2
                  have n1 : ∀ q u, H5 Dn ≠ some (.frz q u) := fun q u e => by rw [h1] at e; cases e
                  have e7 : Ext X.K μ6 μ6 H5 (upd H5 Dn (.lst (vs ++ [w]))) := Ext.put (List.mem_of_getElem? hn6) n1
                  have r7 := r6.put (c := .lst (acc ++ [d2])) (o := .lst (vs ++ [w])) hn6 n1 ⟨vs ++ [w], upd_same, Reps.mono e7 (h2.app (Reps.one hw6))⟩
                  exact ⟨vs, h1, by rw [← h2.length]; exact cz, μ6, _, e2.trans ((e3.trans e6).trans e7), r7, Post.pre ((e3.trans e6).trans e7) p2⟩
                · rw [if_neg cz] at p2
                  exact p2.elim
              · exact p2.elim
            | ex cc fs S4 => rw [hev] at p2; exact p2.elim
            | bad => rw [hev] at p2; exact p2.elim
        | ex cc fs S3 => rw [hcv] at p2; exact p2.elim
        | bad => rw [hcv] at p2; exact p2.elim
    · rw [if_neg kk] at p2
      exact p2.elim
def turnO (F : Fns) (e : IE) (t : IT) (t2 : IT) (it2 : II) (c : IO) (ρ : Env) (n : Nat) (x : D) (S2 : Store) : Out Unit := match bindT t x (wipeE ρ (slotsT t ++ slotsT t2)) with
      | some ρ' => (evI F it2 ρ' S2).bind fun q S3 => loopC q.2 (turnC F e t2 c ρ') n q.1 S3
      | none => .bad
theorem wipe_sub {σ σ2 : L2.St} {vs : List Nat} {t : List Nat} (hl : σ2.length = σ.length) (h : ∀ i, i ∉ t → σ2[i]? = (wipe σ vs)[i]?) (ht : ∀ i ∈ t, i ∈ vs) : wipe σ2 vs = wipe σ vs :=
  wipe_same hl fun i hi => h i fun hm => hi (ht i hm)
theorem lc2_read {ie : IE} {t t2 : IT} {it it2 : II} {c : IO} {σ : L2.St} {H : Hp} {Q : VK} (h : tE (gX X ca) E F (.lc2 ie t it t2 it2 c) σ H Q) :
    tLc2 (tI (gX X ca) E F t it) (gB (gX X ca) t) (tC (gX X ca) E0 F .none) (tI (gX X ca) E0 F t2 it2) (gB (gX X ca) t2) (tC (gX X ca) E0 F c) (tE (gX X ca) E0 F ie) (slotsT t ++ slotsT t2) (slotsT t2) σ H Q := by
  obtain ⟨μ, ρ, S, r, sl, p⟩ := h
  have p : Post _ E ((evI F it ρ S).bind fun p S1 => (loopO p.2 (turnO F ie t t2 it2 c ρ S1.length) p.1 (S1 ++ [.lst []])).bind fun _ S5 => .ok (D.loc S1.length) S5) μ H _ := p
  refine ⟨μ, ρ, S, r, sl, p.bind.imp ?_⟩
  intro ps S1 μ1 H1 e1 r1 p1 J ok Dn hD
  obtain ⟨items, src⟩ := ps
  have p1 : Post _ E ((loopO src (turnO F ie t t2 it2 c ρ S1.length) items (S1 ++ [.lst []])).bind fun _ S5 => .ok (D.loc S1.length) S5) μ1 H1 _ := p1
  have e0 : Ext X.K μ1 (μ1 ++ [Dn]) H1 (upd H1 Dn (.lst [])) := Ext.new hD
  have r0 : Rel (gX X ca) (μ1 ++ [Dn]) (S1 ++ [.lst []]) (upd H1 Dn (.lst [])) := r1.new hD ⟨[], upd_same, rfl⟩
  have hn0 : (μ1 ++ [Dn])[S1.length]? = some Dn := by rw [← r1.len]; simp
  refine ⟨fun i m H => m = items.length - i ∧ ∃ μ' S', Ext X.K (μ1 ++ [Dn]) μ' (upd H1 Dn (.lst [])) H ∧ Rel (gX X ca) μ' S' H ∧
    Post (gX X ca) E ((loopO src (turnO F ie t t2 it2 c ρ S1.length) (items.drop i) S').bind fun _ S5 => .ok (D.loc S1.length) S5) μ' H fun d _ μ' H' => ∀ v, Rep X.K μ' H' d v → Q v H',
    ⟨items.length, by simp, μ1 ++ [Dn], S1 ++ [.lst []], Ext.refl, r0, by rw [List.drop_zero]; exact Post.pre e0 p1⟩, ?_⟩
  rintro i m H2 ⟨rfl, μ2, S2, e2, r2, p2⟩
  have hx : Ext X.K μ1 μ2 H1 H2 := e0.trans e2
  cases hd : items.drop i with
  | nil =>
    rw [hd] at p2
    have hi : items.length ≤ i := List.drop_eq_nil_iff.mp hd
    have p2 : Post _ E ((if src.ok S2 = true then Out.ok () S2 else .bad).bind fun _ S5 => .ok (D.loc S1.length) S5) μ2 H2 _ := p2
    by_cases k : src.ok S2 = true
    · rw [if_pos k] at p2
      refine .inl ⟨?_, Post.okI (show Post _ E (.ok (D.loc S1.length) S2) μ2 H2 _ from p2) r2 _ ⟨Dn, e2.at_ hn0, rfl⟩⟩
      exact ok.stop μ2 S2 H2 i hx r2 k hi
    · rw [if_neg k] at p2
      exact p2.elim
  | cons x xs =>
    rw [hd] at p2
    have hi : i < items.length := by
      have : (items.drop i).length ≠ 0 := by rw [hd]; simp
      rw [List.length_drop] at this
      omega
    have hxi : items[i]? = some x := by
      have : (items.drop i)[0]? = some x := by rw [hd]; rfl
      simpa using this
    have hdx : items.drop (i + 1) = xs := by
      rw [← List.drop_drop, hd] <;> rfl
    have p2 : Post _ E ((if src.ok S2 = true then (match turnO F ie t t2 it2 c ρ S1.length x S2 with | .ok _ S' => loopO src (turnO F ie t t2 it2 c ρ S1.length) xs S' | _ => .bad) else .bad).bind fun _ S5 => .ok (D.loc S1.length) S5) μ2 H2 _ := p2
    by_cases k : src.ok S2 = true
    · rw [if_pos k] at p2
      obtain ⟨hgo, hyl⟩ := ok.go i x μ2 S2 H2 hx r2 k hxi
      refine .inr ⟨hgo, fun H' => ∃ μ' S', Ext X.K (μ1 ++ [Dn]) μ' (upd H1 Dn (.lst [])) H' ∧ Rel (gX X ca) μ' S' H' ∧
        Post (gX X ca) E ((loopO src (turnO F ie t t2 it2 c ρ S1.length) xs S').bind fun _ S5 => .ok (D.loc S1.length) S5) μ' H' fun d _ μ' H' => ∀ v, Rep X.K μ' H' d v → Q v H',
        fun H' q => ⟨items.length - (i + 1), by omega, rfl, by rw [hdx]; exact q⟩, fun v H3 y => ?_⟩
      obtain ⟨e3, r3, hv⟩ := hyl v H3 y
      cases hb : bindT t x (wipeE ρ (slotsT t ++ slotsT t2)) with
      | none =>
        have ht : turnO F ie t t2 it2 c ρ S1.length x S2 = .bad := by unfold turnO; rw [hb]
        rw [ht] at p2
        exact p2.elim
      | some ρ' =>
        refine ⟨μ2, wipeE ρ (slotsT t ++ slotsT t2), S2, x, ρ', r3, (wipe_slots ((((sl.mono e1).mono hx)).mono e3) _), hv, hb, fun σ2 s2 l2 k2 => ⟨wipe_sub (by rw [l2, wipe_length]) k2 (fun i hi => List.mem_append_left _ hi), ?_⟩⟩
        have ht : turnO F ie t t2 it2 c ρ S1.length x S2 = (evI F it2 ρ' S2).bind fun q S3 => loopC q.2 (turnC F ie t2 c ρ') S1.length q.1 S3 := by unfold turnO; rw [hb]
        rw [ht] at p2
        refine ⟨μ2, ρ', S2, r3, s2, ?_⟩
        refine Post.anyE (a := true) (S' := S2) rfl fun μ4 H4 e4 r4 => ?_
        refine iteT ?_
        refine ⟨μ4, ρ', S2, r4, s2.mono e4, ?_⟩
        cases hev : evI F it2 ρ' S2 with
        | ok ps2 S3 =>
          rw [hev] at p2
          obtain ⟨items2, src2⟩ := ps2
          have p2 : Post _ E ((match loopC src2 (turnC F ie t2 c ρ') S1.length items2 S3 with | .ok _ S' => loopO src (turnO F ie t t2 it2 c ρ S1.length) xs S' | _ => .bad).bind fun _ S5 => .ok (D.loc S1.length) S5) μ2 H2 _ := p2
          have assoc : ∀ {μ' H' R}, Post (gX X ca) E ((match loopC src2 (turnC F ie t2 c ρ') S1.length items2 S3 with | .ok _ S' => loopO src (turnO F ie t t2 it2 c ρ S1.length) xs S' | _ => .bad).bind fun _ S5 => .ok (D.loc S1.length) S5) μ' H' R → Post (gX X ca) E ((loopC src2 (turnC F ie t2 c ρ') S1.length items2 S3).bind fun _ S' => (loopO src (turnO F ie t t2 it2 c ρ S1.length) xs S').bind fun _ S5 => .ok (D.loc S1.length) S5) μ' H' R := fun {μ' H' R} q => by
            cases hl : loopC src2 (turnC F ie t2 c ρ') S1.length items2 S3 with
            | ok a S' => rw [hl] at q; exact q
            | ex cc fs S' => rw [hl] at q; exact q.elim
            | bad => rw [hl] at q; exact q.elim
          have p2 := assoc p2
          refine Post.anyE (a := (items2, src2)) (S' := S3) rfl fun μ5 H5 e5 r5 J1 ok1 => ?_
          have ee := e3.trans (e4.trans e5)
          exact inner_read (Nx := fun H' => ∃ μ' S', Ext X.K (μ1 ++ [Dn]) μ' (upd H1 Dn (.lst [])) H' ∧ Rel (gX X ca) μ' S' H' ∧
            Post (gX X ca) E ((loopO src (turnO F ie t t2 it2 c ρ S1.length) xs S').bind fun _ S5 => .ok (D.loc S1.length) S5) μ' H' fun d _ μ' H' => ∀ v, Rep X.K μ' H' d v → Q v H')
            (E := E) (k := fun S' => (loopO src (turnO F ie t t2 it2 c ρ S1.length) xs S').bind fun _ S5 => .ok (D.loc S1.length) S5) ok1 (ee.at_ (e2.at_ hn0)) (s2.mono (e4.trans e5)) r5 (Post.pre ee p2) fun μ' S' H' e' r' q' => ⟨μ', S', e2.trans (ee.trans e'), r', q'⟩
        | ex cc fs S3 => rw [hev] at p2; exact p2.elim
        | bad => rw [hev] at p2; exact p2.elim
    · rw [if_neg k] at p2
      exact p2.elim
section
variable {elt tg iter tg1 iter1 : Expr} {ifs1 : List Expr} {scope : Scope} {own : List (Str × Nat)} {pos : Pos} {ie : IE} {t t2 : IT} {it it2 : II} {c : IO}
theorem e_lc2 (hc : X.calm = true) (hN : X.N.Nodup) (hi : PI X tg iter (tI (gX X ca) E F t it)) (ok : BlkOk X.N X.env.scope scope own) (ho : own.map (·.2) = slotsT t ++ slotsT t2)
    (hg : ∀ (s : Shared) (H : Hp) (C : Addr) (cl : List (Str × Addr)) (fp : List Addr), PG (X.blk s H scope (compEnvC scope cl C X.env) fp) tg (gB (gX X ca) t))
    (hi1 : ∀ (s : Shared) (H : Hp) (C : Addr) (cl : List (Str × Addr)) (fp : List Addr), PI (X.blk s H scope (compEnvC scope cl C X.env) fp) tg1 iter1 (tI (gX X ca) E0 F t2 it2))
    (hg1 : ∀ (s : Shared) (H : Hp) (C : Addr) (cl : List (Str × Addr)) (fp : List Addr), PG (X.blk s H scope (compEnvC scope cl C X.env) fp) tg1 (gB (gX X ca) t2))
    (ht : ∀ (s : Shared) (H : Hp) (C : Addr) (cl : List (Str × Addr)) (fp : List Addr), PTs (X.blk s H scope (compEnvC scope cl C X.env) fp) ifs1 (tC (gX X ca) E0 F c))
    (he : ∀ (s : Shared) (H : Hp) (C : Addr) (cl : List (Str × Addr)) (fp : List Addr), PE (X.blk s H scope (compEnvC scope cl C X.env) fp) elt (tE (gX X ca) E0 F ie)) (hs : ∀ x, foldedSetIterable iter X.env x = pure x) (hs1 : ∀ env x, foldedSetIterable iter1 env x = pure x) :
    PE X (.ListComp elt [⟨tg, iter, [], 0⟩, ⟨tg1, iter1, ifs1, 0⟩] scope pos) (tE (gX X ca) E F (.lc2 ie t it t2 it2 c)) := by
  refine PE.imp (pe_lc2 (vs1 := slotsT t2) hc hN hi ok (fun i h => by rw [ho]; exact List.mem_append_right _ h) hg (tt := tC (gX X ca) E0 F .none) (fun s H C cl fp => c_nil (X := X.blk s H scope (compEnvC scope cl C X.env) fp)) hi1 hg1 ht he hs hs1) fun σ H Q q => ?_
  rw [ho]
  exact lc2_read q
end
end
end Iv

set_option maxRecDepth 10000
/-! IvE: chains as tests, list(range(..)). -/
namespace Iv
open PySem PySem.Spec PyProof.Rows L2
section
variable {X : Cx} {ca : Nat → Addr} {E : XK} {F : Fns}
theorem chn_bl {op op' : CmpOp} {a b c : IE} {ρ : Env} {S S' : Store} {d : D} (h : evE F (.chn op op' a b c) ρ S = .ok d S') : ∃ k, d = .bl k := by
  have h : ((evE F a ρ S).bind fun x S1 => (evE F b ρ S1).bind fun y S2 => (ok? (cmpD op x y S2) S2).bind fun k _ => if k then (evE F c ρ S2).bind fun z S3 => ok? ((cmpD op' y z S3).map D.bl) S3 else .ok (D.bl false) S2) = .ok d S' := h
  cases ha : evE F a ρ S with
  | ok x S1 =>
    rw [ha] at h
    have h : ((evE F b ρ S1).bind fun y S2 => (ok? (cmpD op x y S2) S2).bind fun k _ => if k then (evE F c ρ S2).bind fun z S3 => ok? ((cmpD op' y z S3).map D.bl) S3 else .ok (D.bl false) S2) = .ok d S' := h
    cases hb : evE F b ρ S1 with
    | ok y S2 =>
      rw [hb] at h
      have h : ((ok? (cmpD op x y S2) S2).bind fun k _ => if k then (evE F c ρ S2).bind fun z S3 => ok? ((cmpD op' y z S3).map D.bl) S3 else .ok (D.bl false) S2) = .ok d S' := h
      cases hc : cmpD op x y S2 with
      | none => rw [hc] at h; cases h
      | some k =>
        rw [hc] at h
        have h : (if k = true then (evE F c ρ S2).bind fun z S3 => ok? ((cmpD op' y z S3).map D.bl) S3 else .ok (D.bl false) S2) = .ok d S' := h
        cases k with
        | false => cases h; exact ⟨_, rfl⟩
        | true =>
          rw [if_pos rfl] at h
          cases hz : evE F c ρ S2 with
          | ok z S3 =>
            rw [hz] at h
            have h : ok? ((cmpD op' y z S3).map D.bl) S3 = .ok d S' := h
            cases hw : cmpD op' y z S3 with
            | none => rw [hw] at h; cases h
            | some k => rw [hw] at h; cases h; exact ⟨_, rfl⟩
          | ex cc fs S3 => rw [hz] at h; cases h
          | bad => rw [hz] at h; cases h
    | ex cc fs S3 => rw [hb] at h; cases h
    | bad => rw [hb] at h; cases h
  | ex cc fs S3 => rw [ha] at h; cases h
  | bad => rw [ha] at h; cases h
theorem chn_read (hu : X.A.units + 100 < cLine) {op op' : CmpOp} {ia ib ic : IE} {σ : L2.St} {H : Hp} {Q : VK} (q : tE (gX X ca) E F (.chn op op' ia ib ic) σ H Q) :
    tChain (r2 (gX X ca) E fun a b S => ok? ((cmpD op a b S).map D.bl) S) (r2 (gX X ca) E fun a b S => ok? ((cmpD op' a b S).map D.bl) S) (tE (gX X ca) E F ia) (tE (gX X ca) E F ib) (tE (gX X ca) E F ic) σ H Q := by
  obtain ⟨μ, ρ, S, r, sl, p⟩ := q
  have p : Post _ E ((evE F ia ρ S).bind fun x S1 => (evE F ib ρ S1).bind fun y S2 => (ok? (cmpD op x y S2) S2).bind fun k _ => if k then (evE F ic ρ S2).bind fun z S3 => ok? ((cmpD op' y z S3).map D.bl) S3 else .ok (D.bl false) S2) μ H _ := p
  refine two r sl p fun x y H2 d d' S2 μ2 e2 r2 hx hy p2 => ?_
  cases hcm : cmpD op d d' S2 with
  | none => rw [hcm] at p2; exact p2.elim
  | some k =>
    rw [hcm] at p2
    refine ⟨μ2, S2, d, d', r2, hx, hy, ?_⟩
    show Post _ E (ok? ((cmpD op d d' S2).map D.bl) S2) μ2 H2 _
    rw [hcm]
    intro μ3 H3 e3 r3 v hv
    obtain rfl : v = .bl k := hv
    refine ⟨k, rfl, ?_⟩
    cases k with
    | false => exact iteF (Post.okI (show Post _ E (.ok (D.bl false) S2) μ3 H3 _ from Post.pre e3 p2) r3 _ rfl)
    | true =>
      refine iteT ?_
      have p3 : Post _ E ((evE F ic ρ S2).bind fun z S3 => ok? ((cmpD op' d' z S3).map D.bl) S3) μ3 H3 _ := Post.pre e3 p2
      exact one r3 ((sl.mono e2).mono e3) p3 fun z H4 d4 S4 μ4 e4 r4 hz p4 => ⟨μ4, S4, d', d4, r4, (hy.mono e3).mono e4, hz, p4⟩
theorem t_chn (hu : X.A.units + 100 < cLine) {op op' : CmpOp} {a b c : Expr} {ia ib ic : IE} {pos : Pos} (ha : PE X a (tE (gX X ca) E F ia)) (hb : PE X b (tE (gX X ca) E F ib)) (hc : PE X c (tE (gX X ca) E F ic)) (hm : lastMarks [op, op'] [b, c] = false) :
    PT X (.Compare a [op, op'] [b, c] pos) (tT (gX X ca) E F (.chn op op' ia ib ic)) := by
  refine PT.imp (pt_chain (op_cmp (ca := ca) (E := E) hu) (op_cmp (ca := ca) (E := E) hu) ha hb hc hm) fun σ H Q q => ?_
  obtain ⟨μ, ρ, S, r, sl, p⟩ := q
  refine chn_read hu ⟨μ, ρ, S, r, sl, ?_⟩
  cases h : evE F (.chn op op' ia ib ic) ρ S with
  | ok d S' =>
    obtain ⟨k, rfl⟩ := chn_bl h
    rw [h] at p
    intro μ' H' e' r' v hv
    obtain rfl : v = .bl k := hv
    exact ⟨k, rfl, Post.okI (show Post _ E (truO (.bl k) S') μ' H' _ from Post.pre e' p) r'⟩
  | ex cc fs S' => rw [h] at p; exact p
  | bad => rw [h] at p; exact p.elim
/-! ### list(range(..)) -/
theorem rgV_rep {K : PySem.W.Frag} {μ : List Addr} {H : Hp} : ∀ (n : Nat) (lo : Int), Reps K μ H (rangeL lo n) ((List.range n).map fun i => V.int (lo + (i : Nat)))
  | 0, _ => rfl
  | n + 1, lo => by
    rw [List.range_succ_eq_map, List.map_cons, List.map_map]
    refine ⟨V.int lo, _, ?_, rfl, rgV_rep n (lo + 1)⟩
    congr 1
    · simp
    · refine List.map_congr_left fun i _ => ?_
      show V.int (lo + ((i + 1 : Nat) : Int)) = V.int (lo + 1 + (i : Int))
      congr 1
      omega
theorem lrange_new {lo hi : Int} {S : Store} {μ : List Addr} {H : Hp} {Q : VK} (r : Rel (gX X ca) μ S H) (hz : (hi - lo).toNat ≤ sizeLine)
    (p : Post (gX X ca) E (newC (.lst (rangeL lo (hi - lo).toNat)) S) μ H fun d _ μ' H' => ∀ v, Rep X.K μ' H' d v → Q v H') : ∀ q, H q = none → Q (.ref q) (upd H q (.lst (rgV lo hi))) := fun q hq => by
  refine Post.new (c := .lst (rangeL lo (hi - lo).toNat)) p r hq ⟨_, upd_same, ?_⟩ _ (Rep.newLoc r.len.symm)
  exact rgV_rep _ _
theorem small_in {i : Int} (h : small62 i = true) : -(2 ^ 62) ≤ i ∧ i < 2 ^ 62 := of_decide_eq_true h
theorem e_lrange1 {a : Expr} {ia : IE} {p p2 pos pos2 : Pos} (hc : X.calm = true) (hg : Gl X "list") (hm : X.mg "list" = none) (hg2 : Gl X "range") (hm2 : X.mg "range" = none) (ha : PE X a (tE (gX X ca) E F ia))
    (na : starEach [a] X.env = (false, eval a X.env) :: starEach [] X.env) (nb : starEach [Expr.Call (.Name "range" p2) [a] [] pos2] X.env = (false, eval (.Call (.Name "range" p2) [a] [] pos2) X.env) :: starEach [] X.env) :
    PE X (.Call (.Name "list" p) [.Call (.Name "range" p2) [a] [] pos2] [] pos) (tE (gX X ca) E F (.lrange (.cons ia .nil))) := by
  refine PE.imp (pe_listRg hc hg hm (prg_1 hg2 hm2 ha na) nb) fun σ H Q q => ?_
  obtain ⟨μ, ρ, S, r, sl, p⟩ := q
  have p : Post _ E (((evE F ia ρ S).bind fun d S1 => Out.ok [d] S1).bind fun ds S1 => match rangeOf ds with
    | some xs => if xs.length ≤ sizeLine then newC (.lst xs) S1 else .bad
    | none => .bad) μ H _ := p
  have p : Post (gX X ca) E ((evE F ia ρ S).bind fun d S1 => match rangeOf [d] with
    | some xs => if xs.length ≤ sizeLine then newC (.lst xs) S1 else .bad
    | none => .bad) μ H fun d _ μ' H' => ∀ v, Rep X.K μ' H' d v → Q v H' := by
    cases h : evE F ia ρ S with
    | ok d S' => rw [h] at p; exact p
    | ex cc fs S' => rw [h] at p; exact p
    | bad => rw [h] at p; exact p
  refine one r sl p fun x H1 d S1 μ1 e1 r1 hx p1 => ?_
  cases d with
  | int j =>
    obtain rfl : x = .int j := hx
    have p1 : Post _ E (match (if small62 j = true then some (rangeL 0 j.toNat) else none) with
      | some xs => if xs.length ≤ sizeLine then newC (.lst xs) S1 else .bad
      | none => .bad) μ1 H1 _ := p1
    by_cases c : small62 j = true
    · rw [if_pos c] at p1
      have p1 : Post _ E (if (rangeL 0 j.toNat).length ≤ sizeLine then newC (.lst (rangeL 0 j.toNat)) S1 else .bad) μ1 H1 _ := p1
      by_cases c2 : (rangeL 0 j.toNat).length ≤ sizeLine
      · rw [if_pos c2] at p1
        rw [rangeL_len, sizeLine_eq] at c2
        obtain ⟨b1, b2⟩ := small_in c
        have e : (j - 0).toNat = j.toNat := by rw [Int.sub_zero]
        exact ⟨j, rfl, ⟨by decide, by decide, b1, b2, by omega⟩, lrange_new (lo := 0) (hi := j) r1 (by rw [sizeLine_eq]; omega) (by rw [e]; exact p1)⟩
      · rw [if_neg c2] at p1; exact p1.elim
    · rw [if_neg c] at p1; exact p1.elim
  | _ => exact p1.elim
end
end Iv

set_option maxRecDepth 10000
/-! IvF: dict comprehensions. -/
namespace Iv
open PySem PySem.Spec PyProof.Rows L2
section
variable {X : Cx} {ca : Nat → Addr} {E : XK} {F : Fns}
def turnD (F : Fns) (k v : IE) (t : IT) (ρ : Env) (n : Nat) (x : D) (S2 : Store) : Out Unit := match bindT t x (wipeE ρ (slotsT t)) with
      | some ρ' => (evE F k ρ' S2).bind fun y S3 => (evE F v ρ' S3).bind fun z S4 => (gc S2 z S4).bind fun z' S5 => putO n y z' S5
      | none => .bad
theorem dc_read {ik iv : IE} {t : IT} {it : II} {σ : L2.St} {H : Hp} {Q : VK} (h : tE (gX X ca) E F (.dc ik iv t it) σ H Q) :
    tDc (tI (gX X ca) E F t it) (gB (gX X ca) t) (tC (gX X ca) E0 F .none) (tE (gX X ca) E0 F ik) (tE (gX X ca) E0 F iv) (slotsT t) σ H Q := by
  obtain ⟨μ, ρ, S, r, sl, p⟩ := h
  have p : Post _ E ((evI F it ρ S).bind fun p S1 => (loopO p.2 (turnD F ik iv t ρ S1.length) p.1 (S1 ++ [.dct false []])).bind fun _ S5 => .ok (D.loc S1.length) S5) μ H _ := p
  refine ⟨μ, ρ, S, r, sl, p.bind.imp ?_⟩
  intro ps S1 μ1 H1 e1 r1 p1 J ok Dn hD
  obtain ⟨items, src⟩ := ps
  have p1 : Post _ E ((loopO src (turnD F ik iv t ρ S1.length) items (S1 ++ [.dct false []])).bind fun _ S5 => .ok (D.loc S1.length) S5) μ1 H1 _ := p1
  have e0 : Ext X.K μ1 (μ1 ++ [Dn]) H1 (upd H1 Dn (.dK [])) := Ext.new hD
  have r0 : Rel (gX X ca) (μ1 ++ [Dn]) (S1 ++ [.dct false []]) (upd H1 Dn (.dK [])) := r1.new hD ⟨[], upd_same, rfl, rfl⟩
  have hn0 : (μ1 ++ [Dn])[S1.length]? = some Dn := by rw [← r1.len]; simp
  refine ⟨fun i m H => m = items.length - i ∧ ∃ μ' S', Ext X.K (μ1 ++ [Dn]) μ' (upd H1 Dn (.dK [])) H ∧ Rel (gX X ca) μ' S' H ∧
    Post (gX X ca) E ((loopO src (turnD F ik iv t ρ S1.length) (items.drop i) S').bind fun _ S5 => .ok (D.loc S1.length) S5) μ' H fun d _ μ' H' => ∀ v, Rep X.K μ' H' d v → Q v H',
    ⟨items.length, by simp, μ1 ++ [Dn], S1 ++ [.dct false []], Ext.refl, r0, by rw [List.drop_zero]; exact Post.pre e0 p1⟩, ?_⟩
  rintro i m H2 ⟨rfl, μ2, S2, e2, r2, p2⟩
  have hx : Ext X.K μ1 μ2 H1 H2 := e0.trans e2
  cases hd : items.drop i with
  | nil =>
    rw [hd] at p2
    have hi : items.length ≤ i := List.drop_eq_nil_iff.mp hd
    have p2 : Post _ E ((if src.ok S2 = true then Out.ok () S2 else .bad).bind fun _ S5 => .ok (D.loc S1.length) S5) μ2 H2 _ := p2
    by_cases k : src.ok S2 = true
    · rw [if_pos k] at p2
      refine .inl ⟨?_, Post.okI (show Post _ E (.ok (D.loc S1.length) S2) μ2 H2 _ from p2) r2 _ ⟨Dn, e2.at_ hn0, rfl⟩⟩
      exact ok.stop μ2 S2 H2 i hx r2 k hi
    · rw [if_neg k] at p2
      exact p2.elim
  | cons x xs =>
    rw [hd] at p2
    have hi : i < items.length := by
      have : (items.drop i).length ≠ 0 := by rw [hd]; simp
      rw [List.length_drop] at this
      omega
    have hxi : items[i]? = some x := by
      have : (items.drop i)[0]? = some x := by rw [hd]; rfl
      simpa using this
    have hdx : items.drop (i + 1) = xs := by
      rw [← List.drop_drop, hd] <;> rfl
    have p2 : Post _ E ((if src.ok S2 = true then (match turnD F ik iv t ρ S1.length x S2 with | .ok _ S' => loopO src (turnD F ik iv t ρ S1.length) xs S' | _ => .bad) else .bad).bind fun _ S5 => .ok (D.loc S1.length) S5) μ2 H2 _ := p2
    by_cases k : src.ok S2 = true
    · rw [if_pos k] at p2
      obtain ⟨hgo, hyl⟩ := ok.go i x μ2 S2 H2 hx r2 k hxi
      refine .inr ⟨hgo, fun H' => ∃ μ' S', Ext X.K (μ1 ++ [Dn]) μ' (upd H1 Dn (.dK [])) H' ∧ Rel (gX X ca) μ' S' H' ∧
        Post (gX X ca) E ((loopO src (turnD F ik iv t ρ S1.length) xs S').bind fun _ S5 => .ok (D.loc S1.length) S5) μ' H' fun d _ μ' H' => ∀ v, Rep X.K μ' H' d v → Q v H',
        fun H' q => ⟨items.length - (i + 1), by omega, rfl, by rw [hdx]; exact q⟩, fun v H3 y => ?_⟩
      obtain ⟨e3, r3, hv⟩ := hyl v H3 y
      cases hb : bindT t x (wipeE ρ (slotsT t)) with
      | none =>
        have ht : turnD F ik iv t ρ S1.length x S2 = .bad := by unfold turnD; rw [hb]
        rw [ht] at p2
        exact p2.elim
      | some ρ' =>
        refine ⟨μ2, wipeE ρ (slotsT t), S2, x, ρ', r3, (wipe_slots ((((sl.mono e1).mono hx)).mono e3) _), hv, hb, fun σ2 s2 l2 k2 => ⟨wipe_same (by rw [l2, wipe_length]) k2, ?_⟩⟩
        have ht : turnD F ik iv t ρ S1.length x S2 = (evE F ik ρ' S2).bind fun y S3 => (evE F iv ρ' S3).bind fun z S4 => (gc S2 z S4).bind fun z' S5 => putO S1.length y z' S5 := by unfold turnD; rw [hb]
        rw [ht] at p2
        refine ⟨μ2, ρ', S2, r3, s2, ?_⟩
        refine Post.anyE (a := true) (S' := S2) rfl fun μ4 H4 e4 r4 => ?_
        refine iteT ?_
        cases hk : evE F ik ρ' S2 with
        | ok dk S3 =>
          rw [hk] at p2
          refine ⟨μ4, ρ', S2, r4, s2.mono e4, Post.anyE hk fun μ5 H5 e5 r5 wk hwk => ?_⟩
          cases hv2 : evE F iv ρ' S3 with
          | ok dv S4 =>
            have p2 : Post _ E ((match (evE F iv ρ' S3).bind fun z S4 => (gc S2 z S4).bind fun z' S5 => putO S1.length dk z' S5 with | .ok _ S' => loopO src (turnD F ik iv t ρ S1.length) xs S' | _ => .bad).bind fun _ S5 => .ok (D.loc S1.length) S5) μ2 H2 _ := p2
            rw [hv2] at p2
            refine ⟨μ5, ρ', S3, r5, s2.mono (e4.trans e5), Post.anyE hv2 fun μ6 H6 e6 r6 w hw => ?_⟩
            obtain ⟨d2, S6, μ7, eg, e7, r7, hw7⟩ := gc_ok (g := gX X ca) (Q := fun d2 S2' μ2' => Ext X.K μ2 μ2' H3 H6 ∧ Rel (gX X ca) μ2' S2' H6 ∧ Rep X.K μ2' H6 d2 w) r3 r6 ((e4.trans e5).trans e6) hw fun d2 S2' μ2' _ e5 r5 hw => ⟨e5, r5, hw⟩
            have p2 : Post _ E ((match (gc S2 dv S4).bind fun z' S5 => putO S1.length dk z' S5 with | .ok _ S' => loopO src (turnD F ik iv t ρ S1.length) xs S' | _ => .bad).bind fun _ S5 => .ok (D.loc S1.length) S5) μ2 H2 _ := p2
            rw [eg] at p2
            have p2 : Post _ E ((match putO S1.length dk d2 S6 with | .ok _ S' => loopO src (turnD F ik iv t ρ S1.length) xs S' | _ => .bad).bind fun _ S5 => .ok (D.loc S1.length) S5) μ2 H2 _ := p2
            have hn7 : μ7[S1.length]? = some Dn := e7.at_ (e2.at_ hn0)
            cases hq : D.key? dk with
            | none =>
              have z : putO S1.length dk d2 S6 = .bad := by unfold putO; rw [hq]
              rw [z] at p2
              exact p2.elim
            | some q =>
              obtain rfl : wk = kV q := key_rep hq hwk
              cases hc : S6[S1.length]? with
              | none =>
                have z : putO S1.length dk d2 S6 = .bad := by unfold putO; rw [hq, hc]
                rw [z] at p2
                exact p2.elim
              | some c =>
                cases c with
                | dct lk kvs =>
                  cases lk with
                  | true =>
                    have z : putO S1.length dk d2 S6 = .bad := by unfold putO; rw [hq, hc]
                    rw [z] at p2
                    exact p2.elim
                  | false =>
                    have z : putO S1.length dk d2 S6 = if kvs.length < sizeLine ∧ (kvs.map (·.1)).Nodup then .ok () (S6.set S1.length (.dct false (putA q d2 kvs))) else .bad := by unfold putO; rw [hq, hc]
                    rw [z] at p2
                    by_cases cz : kvs.length < sizeLine ∧ (kvs.map (·.1)).Nodup
                    · rw [if_pos cz] at p2
                      obtain ⟨kvs', h1, h2, h3⟩ := r7.at_ _ Dn _ hn7 hc
                      have h1 : H6 Dn = some (.dK kvs') := h1
                      have n1 : ∀ q u, H6 Dn ≠ some (.frz q u) := fun q u e => by rw [h1] at e; cases e
                      have e8 : Ext X.K μ7 μ7 H6 (upd H6 Dn (.dK (putK kvs' q w))) := Ext.put (List.mem_of_getElem? hn7) n1
                      have nd : (kvs'.map (·.1)).Nodup := by rw [← h2]; exact cz.2
                      obtain ⟨z1, z2⟩ := put_rep (k := q) hw7 h2 h3 nd
                      have r8 := r7.put (c := .dct false (putA q d2 kvs)) (o := .dK (putK kvs' q w)) hn7 n1 ⟨_, upd_same, z1, Reps.mono e8 z2⟩
                      have hl : kvs.length = kvs'.length := by have := congrArg List.length h2; simpa using this
                      exact ⟨kvs', q, rfl, h1, by rw [← hl]; exact cz.1, μ7, _, e2.trans ((e3.trans e7).trans e8), r8, Post.pre ((e3.trans e7).trans e8) p2⟩
                    · rw [if_neg cz] at p2
                      exact p2.elim
                | _ =>
                  have z : putO S1.length dk d2 S6 = .bad := by unfold putO; rw [hq, hc]
                  rw [z] at p2
                  exact p2.elim
          | ex cc fs S4 =>
            have p2 : Post _ E ((match (evE F iv ρ' S3).bind fun z S4 => (gc S2 z S4).bind fun z' S5 => putO S1.length dk z' S5 with | .ok _ S' => loopO src (turnD F ik iv t ρ S1.length) xs S' | _ => .bad).bind fun _ S5 => .ok (D.loc S1.length) S5) μ2 H2 _ := p2
            rw [hv2] at p2
            exact p2.elim
          | bad =>
            have p2 : Post _ E ((match (evE F iv ρ' S3).bind fun z S4 => (gc S2 z S4).bind fun z' S5 => putO S1.length dk z' S5 with | .ok _ S' => loopO src (turnD F ik iv t ρ S1.length) xs S' | _ => .bad).bind fun _ S5 => .ok (D.loc S1.length) S5) μ2 H2 _ := p2
            rw [hv2] at p2
            exact p2.elim
        | ex cc fs S3 => rw [hk] at p2; exact p2.elim
        | bad => rw [hk] at p2; exact p2.elim
    · rw [if_neg k] at p2
      exact p2.elim
section
variable {kx vx tg iter : Expr} {scope : Scope} {own : List (Str × Nat)} {pos : Pos} {ik iv : IE} {t : IT} {it : II}
theorem e_dc (hc : X.calm = true) (hN : X.N.Nodup) (hi : PI X tg iter (tI (gX X ca) E F t it)) (ok : BlkOk X.N X.env.scope scope own) (ho : own.map (·.2) = slotsT t)
    (hg : ∀ (s : Shared) (H : Hp) (C : Addr) (cl : List (Str × Addr)) (fp : List Addr), PG (X.blk s H scope (compEnvC scope cl C X.env) fp) tg (gB (gX X ca) t))
    (hk : ∀ (s : Shared) (H : Hp) (C : Addr) (cl : List (Str × Addr)) (fp : List Addr), PE (X.blk s H scope (compEnvC scope cl C X.env) fp) kx (tE (gX X ca) E0 F ik))
    (hv : ∀ (s : Shared) (H : Hp) (C : Addr) (cl : List (Str × Addr)) (fp : List Addr), PE (X.blk s H scope (compEnvC scope cl C X.env) fp) vx (tE (gX X ca) E0 F iv)) (hs : ∀ x, foldedSetIterable iter X.env x = pure x) :
    PE X (.DictComp kx vx [⟨tg, iter, [], 0⟩] scope pos) (tE (gX X ca) E F (.dc ik iv t it)) := by
  refine PE.imp (pe_dc (tt := tC (gX X ca) E0 F .none) hc hN hi ok hg (fun s H C cl fp => c_nil (X := X.blk s H scope (compEnvC scope cl C X.env) fp)) hk hv hs) fun σ H Q q => ?_
  rw [ho]
  exact dc_read q
/-- name = {..} on one line -/
theorem st_setDc {i : Nat} {y : Str} {py spos : Pos}
    (hc : X.calm = true) (hN : X.N.Nodup) (hy : X.N[i]? = some y)
    (hyl : X.env.scope.names.lookup y = some .local)
    (hsw : swapsWith (.DictComp kx vx [⟨tg, iter, [], 0⟩] scope pos) (some (.Name y py)) spos.line X.env = pure true)
    (hi : PI X tg iter (tI (gX X ca) E F t it)) (ok : BlkOk X.N X.env.scope scope own) (ho : own.map (·.2) = slotsT t)
    (hg : ∀ (s : Shared) (H : Hp) (C : Addr) (cl : List (Str × Addr)) (fp : List Addr), PG (X.blk s H scope (compEnvC scope cl C X.env) fp) tg (gB (gX X ca) t))
    (hk : ∀ (s : Shared) (H : Hp) (C : Addr) (cl : List (Str × Addr)) (fp : List Addr), PE (X.blk s H scope (compEnvC scope cl C X.env) fp) kx (tE (gX X ca) E0 F ik))
    (hv : ∀ (s : Shared) (H : Hp) (C : Addr) (cl : List (Str × Addr)) (fp : List Addr), PE (X.blk s H scope (compEnvC scope cl C X.env) fp) vx (tE (gX X ca) E0 F iv))
    (hs : ∀ x, foldedSetIterable iter X.env x = pure x) :
    PS X (.Assign [.Name y py] (.DictComp kx vx [⟨tg, iter, [], 0⟩] scope pos) spos) (tS (gX X ca) E F (.asg (.nm i) (.dc ik iv t it))) := by
  refine ⟨fun pins s σ H Dd I q => ?_⟩
  obtain ⟨μ, ρ, S, r, sl, p⟩ := q
  have p : PostS _ E Dd ((evE F (.dc ik iv t it) ρ S).bindS fun d S1 => (asgT F (.nm i) d ρ S1).bindS fun ρ' S' => .nx ρ' S') μ H := p
  have rd : tDc (tI (gX X ca) E F t it) (gB (gX X ca) t) (tC (gX X ca) E0 F .none) (tE (gX X ca) E0 F ik) (tE (gX X ca) E0 F iv) (own.map (·.2)) σ H (fun x H1 => Dd.nx (σ.set i (some x)) H1) := by
    rw [ho]
    refine dc_read ⟨μ, ρ, S, r, sl, p.bindS.imp fun d S1 μ1 H1 e1 r1 q v hv => ?_⟩
    have q : PostS _ E Dd ((if i < ρ.length then Out.ok (ρ.set i (some d)) S1 else .bad).bindS fun ρ' S' => .nx ρ' S') μ1 H1 := q
    by_cases cc : i < ρ.length
    · rw [if_pos cc] at q
      exact q.okN r1 ((sl.mono e1).set i hv)
    · rw [if_neg cc] at q
      exact q.elim
  rw [exec_Assign_Name_used _ _ _ _ hsw]
  refine wpAny_bind (wpAny_standAt (wpAny_bind (wpAny_bind (thn (dc_core (Qf := fun _ s' => SP X pins Dd .next s') (use := some (assign (.Name y py) X.env))
    hc hN I hi ok hg (fun s H C cl fp => c_nil (X := X.blk s H scope (compEnvC scope cl C X.env) fp)) hk hv hs rd ?_) fun _ s' hq => wpAny_pure (wpAny_pure hq)))))
  intro L C s' m H' I' q hn f
  refine (?_ : wpAny _ _ (assign (.Name y py) X.env (.ref L)) _ _ _)
  obtain ⟨f0, f1, f2, f3, f4, f5⟩ := f
  refine wpAny_assign_Name (store_ok2 (v := V.ref L) I' hN hy (.inl hyl) rfl (fun s2 I2 ⟨a, sb, ha⟩ => ⟨m, hn.sameBut sb ?_, fun h3 sb3 => ?_⟩) (.inr hyl))
  · exact ha.elim (fun z => by rw [z]; exact f1) fun z e => f4 y a z e.symm
  · exact ⟨_, H', I2.turned (t' := s2.toks) (fun b o hb e => (sb3.2 b hb).trans e) f0 f1 f3 f4 f5, q⟩
end
end
end Iv

set_option maxRecDepth 10000
/-! IvG: displays of dicts. -/
namespace Iv
open PySem PySem.Spec PyProof.Rows L2
section
variable {X : Cx} {ca : Nat → Addr} {E : XK} {F : Fns}
def flatP (ps : List (V × V)) : List V := ps.flatMap fun p => [p.1, p.2]
def prsOf (g : G) (E : XK) (F : Fns) : IEs → List (TE × TE)
  | .cons a (.cons b r) => (tE g E F a, tE g E F b) :: prsOf g E F r
  | .cons _ .nil => []
  | .nil => []
def evenE : IEs → Bool
  | .nil => true
  | .cons _ (.cons _ r) => evenE r
  | .cons _ .nil => false
theorem bind3 {α β γ : Type} (o : Out α) (f : α → Store → Out β) (k : β → Store → Out γ) : (o.bind f).bind k = o.bind fun a S => (f a S).bind k := by cases o <;> rfl
theorem pairs_go {g : G} {σ : L2.St} {ρ : Env} : ∀ (es : IEs) {μ : List Addr} {S : Store} {H : Hp} {k : List D → Store → Out D} {R : D → Store → List Addr → Hp → Prop} {Q : List (V × V) → Hp → Prop}, evenE es = true → Rel g μ S H → Slots g.K μ H σ ρ → Post g E ((evEs F es ρ S).bind k) μ H R →
    (∀ ps H1 ds S1 μ1, Ext g.K μ μ1 H H1 → Rel g μ1 S1 H1 → Reps g.K μ1 H1 ds (flatP ps) → Post g E (k ds S1) μ1 H1 R → Q ps H1) → tPairs (prsOf g E F es) σ H Q
  | .nil, μ, S, H, k, R, Q, _, r, sl, p, h => h [] H [] S μ Ext.refl r rfl p
  | .cons _ .nil, _, _, _, _, _, _, he, _, _, _, _ => by cases he
  | .cons a (.cons b es), μ, S, H, k, R, Q, he, r, sl, p, h => by
    have p : Post g E (((evE F a ρ S).bind fun d S1 => ((evE F b ρ S1).bind fun d' S2 => (evEs F es ρ S2).bind fun ds S3 => .ok (d' :: ds) S3).bind fun ds S2 => .ok (d :: ds) S2).bind k) μ H R := p
    rw [bind3] at p
    refine one r sl p fun x H1 d S1 μ1 e1 r1 hx p1 => ?_
    rw [bind3, bind3] at p1
    refine one r1 (sl.mono e1) p1 fun y H2 d' S2 μ2 e2 r2 hy p2 => ?_
    rw [bind3] at p2
    refine pairs_go es he r2 ((sl.mono e1).mono e2) p2 fun ps H3 ds S3 μ3 e3 r3 hds p3 => ?_
    exact h ((x, y) :: ps) H3 (d :: d' :: ds) S3 μ3 (e1.trans (e2.trans e3)) r3 ⟨x, _, rfl, (hx.mono e2).mono e3, y, _, rfl, hy.mono e3, hds⟩ p3
theorem pairUp_rep {K : PySem.W.Frag} {μ : List Addr} {H : Hp} : ∀ {ds : List D} {qs : List (Key × D)} {ps : List (V × V)}, pairUp ds = some qs → Reps K μ H ds (flatP ps) → ∃ kvs : List (L2.Key × V), ps = kvs.map (fun kv => (kV kv.1, kv.2)) ∧ qs.map (·.1) = kvs.map (·.1) ∧ Reps K μ H (qs.map (·.2)) (kvs.map (·.2))
  | [], qs, ps, e, h => by
    cases e
    cases ps with
    | nil => exact ⟨[], rfl, rfl, rfl⟩
    | cons p ps => cases (show flatP (p :: ps) = [] from h)
  | [_], qs, ps, e, h => by cases e
  | k :: v :: r, qs, ps, e, h => by
    have e : (match D.key? k, pairUp r with
      | some q, some ps => some ((q, v) :: ps)
      | _, _ => none) = some qs := e
    cases hk : D.key? k with
    | none => rw [hk] at e; cases e
    | some q =>
      cases hr : pairUp r with
      | none => rw [hk, hr] at e; cases e
      | some qr =>
        rw [hk, hr] at e
        cases e
        obtain ⟨x, xr, e1, h1, y, yr, e2, h2, h3⟩ := h
        cases ps with
        | nil => cases e1
        | cons p ps =>
          subst e2
          obtain ⟨a1, b1⟩ := List.cons.inj (show p.1 :: p.2 :: flatP ps = x :: y :: yr from e1)
          obtain ⟨a2, b2⟩ := List.cons.inj b1
          clear e1 b1
          subst a1 a2 b2
          obtain ⟨kvs, z1, z2, z3⟩ := pairUp_rep hr h3
          have hq := key_rep hk h1
          refine ⟨(q, p.2) :: kvs, ?_, ?_, ⟨p.2, _, rfl, h2, z3⟩⟩
          · rw [List.map_cons, ← z1, ← hq]
          · rw [List.map_cons, List.map_cons, z2]
theorem e_dis {keys : List (Option Expr)} {values : List Expr} {pos : Pos} {es : IEs} (hp : PPs X pos keys values (prsOf (gX X ca) E F es)) (he : evenE es = true) (hall : keys.all (·.isSome) = true) (hl : keys.length = values.length) (h0 : keys ≠ []) (h15 : keys.length ≤ 15) :
    PE X (.Dict keys values pos) (tE (gX X ca) E F (.dis es)) := by
  refine PE.imp (pe_disp hp hall hl h0 h15) fun σ H Q q => ?_
  obtain ⟨μ, ρ, S, r, sl, p⟩ := q
  intro a ha
  have e0 : Ext X.K μ (μ ++ [a]) H (upd H a (.dK [])) := Ext.new ha
  have r0 : Rel (gX X ca) (μ ++ [a]) (S ++ [.dct false []]) (upd H a (.dK [])) := r.new ha ⟨[], upd_same, rfl, rfl⟩
  have hn0 : (μ ++ [a])[S.length]? = some a := by rw [← r.len]; simp
  have p : Post _ E ((evEs F es ρ (S ++ [.dct false []])).bind fun ds S2 => match pairUp ds with
    | some ps => if S2[S.length]? = some (.dct false []) ∧ ps.length ≤ 15 then Out.ok (D.loc S.length) (S2.set S.length (.dct false (fromPairs [] ps))) else .bad
    | none => .bad) μ H _ := p
  refine pairs_go es he r0 (sl.mono e0) (Post.pre e0 p) fun ps H1 ds S1 μ1 e1 r1 hds p1 => ?_
  cases hu : pairUp ds with
  | none => rw [hu] at p1; exact p1.elim
  | some qs =>
    rw [hu] at p1
    have p1 : Post _ E (if S1[S.length]? = some (.dct false []) ∧ qs.length ≤ 15 then Out.ok (D.loc S.length) (S1.set S.length (.dct false (fromPairs [] qs))) else .bad) μ1 H1 _ := p1
    by_cases c : S1[S.length]? = some (.dct false []) ∧ qs.length ≤ 15
    · rw [if_pos c] at p1
      obtain ⟨kvs, z1, z2, z3⟩ := pairUp_rep hu hds
      have hn1 : μ1[S.length]? = some a := e1.at_ hn0
      obtain ⟨k', h1, h2, _⟩ := r1.at_ _ a _ hn1 c.1
      have h1 : H1 a = some (.dK k') := h1
      have : k' = [] := by
        have := congrArg List.length h2
        simp at this
        exact List.eq_nil_of_length_eq_zero this.symm
      subst this
      refine ⟨h1, kvs, z1, ?_, ?_⟩
      · have := congrArg List.length z2
        simp only [List.length_map] at this
        omega
      · obtain ⟨w1, w2⟩ := from_rep (acc := []) (ak := []) z2 z3 rfl (show Reps X.K μ1 H1 [] [] from rfl) List.nodup_nil
        have n1 : ∀ q u, H1 a ≠ some (.frz q u) := fun q u e => by rw [h1] at e; cases e
        have e2 : Ext X.K μ1 μ1 H1 (upd H1 a (.dK (mergeK [] kvs))) := Ext.put (List.mem_of_getElem? hn1) n1
        have r2 := r1.put (c := .dct false (fromPairs [] qs)) (o := .dK (mergeK [] kvs)) hn1 n1 ⟨_, upd_same, w1, Reps.mono e2 w2⟩
        exact p1 μ1 _ e2 r2 _ ⟨a, hn1, rfl⟩
    · rw [if_neg c] at p1
      exact p1.elim
end
end Iv

set_option maxRecDepth 10000
/-! IvH: isinstance(e, tuple), isinstance(e, int). -/
namespace Iv
open PySem PySem.Spec PyProof.Rows L2
def isiN (k : Bool) : Str := if k then "tuple" else "int"
section
variable {X : Cx} {ca : Nat → Addr} {E : XK} {F : Fns}
theorem boot_isi : bootBuiltins "isinstance" = some (.builtin "isinstance") := by decide +kernel
theorem e_isi {k : Bool} {e : Expr} {ie : IE} {p p2 pos : Pos} (hg : Gl X "isinstance") (hm : X.mg "isinstance" = none) (hg2 : Gl X (isiN k)) (hm2 : X.mg (isiN k) = none) (he : PE X e (tE (gX X ca) E F ie)) (hs : nst e = true) :
    PE X (.Call (.Name "isinstance" p) [e, .Name (isiN k) p2] [] pos) (tE (gX X ca) E F (.isi k ie)) := by
  have hv : bootBuiltins (isiN k) = some (.type (if k then "tuple" else "int")) := by cases k <;> decide +kernel
  have h2 : PE X (.Name (isiN k) p2) (L2.tC (V.ty (if k then "tuple" else "int"))) := pe_bltn hg2 hm2 hv rfl (by cases k <;> decide) (by cases k <;> decide)
  have ha := pa_cons he (pa_cons h2 pa_nil (star_cons rfl)) (star_cons hs)
  refine PE.imp (pe_callB call_isi hg hm boot_isi ha (by decide) (by decide) (star_cons hs) rfl) fun σ H Q q => ?_
  obtain ⟨μ, ρ, S, r, sl, p⟩ := q
  have p : Post (gX X ca) E ((evE F ie ρ S).bind fun x S1 => match k, x with
    | true, .tup _ => .ok (.bl true) S1
    | false, .int _ => .ok (.bl true) S1
    | _, _ => .bad) μ H fun d _ μ' H' => ∀ v, Rep X.K μ' H' d v → Q v H' := p
  refine one r sl p fun x H1 d S1 μ1 e1 r1 hx p1 => ?_
  cases k with
  | true =>
    cases d with
    | tup ds =>
      obtain ⟨a, vs, rfl, ⟨o, h1, _⟩, _⟩ := hx
      exact ⟨.ref a, .ty "tuple", .type "tuple", .type "tuple", true, rfl, .ty "tuple", .fTuple h1, if_pos (by decide +kernel), Post.okI (show Post _ E (.ok (D.bl true) S1) μ1 H1 _ from p1) r1 _ rfl⟩
    | _ => exact p1.elim
  | false =>
    cases d with
    | int i =>
      obtain rfl : x = .int i := hx
      exact ⟨.int i, .ty "int", .type "int", .type "int", true, rfl, .ty "int", .base (TyOf.int i), if_pos (by decide +kernel), Post.okI (show Post _ E (.ok (D.bl true) S1) μ1 H1 _ from p1) r1 _ rfl⟩
    | _ => exact p1.elim
end
end Iv

set_option maxRecDepth 10000
/-! Iv17: which program text an expression of the small language stands for. -/
namespace Iv
open PySem PySem.Spec PyProof.Rows L2
def Bf.name : Bf → Str
  | .len => "len" | .max2 | .max1 => "max" | .min2 | .min1 => "min" | .sum => "sum" | .abs => "abs" | .sorted => "sorted" | .tuple => "tuple" | .list => "list" | .dict => "dict" | .set => "set"
  | .all => "all" | .any => "any" | .repr => "repr" | .str => "str" | .int => "int"
/-- what a global name is -/
inductive Gv where
  | con (d : D)
  | fn (f : Nat) (ps : List Str)
structure Tb where
  N : List Str
  gl : Str → Option Gv
structure Sc where
  sc : Scope
  fl : Option Scope
def visB (c : Sc) (x : Str) : Bool := match c.sc.names.lookup x with
  | some .local | some .cell | some .free => true
  | _ => false
def locB (c : Sc) (x : Str) : Bool := match c.sc.names.lookup x with
  | some .local => true
  | some .cell => match c.fl with
    | none => true
    | some s => decide (s.names.lookup x = some .cell)
  | _ => false
def glB (c : Sc) (x : Str) : Bool := decide (c.sc.names.lookup x = some .globalImplicit)
def nmOk (x : Str) : Bool := !(x == ("__debug__" : Str)) && !(x == ("__classdict__" : Str)) && decide (x ≠ ("__name__" : Str))
def conB : D → Const → Bool
  | .int i, .int j => decide (i = j)
  | .str x, .str y => decide (x = y)
  | .bl a, .bool b => decide (a = b)
  | .non, .none => true
  | _, _ => false
def conG (T : Tb) (x : Str) (d : D) : Bool := match T.gl x with
  | some (.con d') => decide (d = d')
  | _ => false
def fnG (T : Tb) (x : Str) (f n : Nat) : Bool := match T.gl x with
  | some (.fn g ps) => decide (g = f) && decide (ps.length = n)
  | _ => false
/-- a receiver that is no super() -/
def noSuper : Expr → Bool
  | .Call (.Name _ _) [] [] _ => false
  | _ => true
def plainIx : Expr → Bool
  | .Slice .. => false
  | _ => true
def noSet : Expr → Bool
  | .Set .. => false
  | _ => true
def noComp : Expr → Bool
  | .ListComp .. | .SetComp .. | .DictComp .. => false
  | _ => true
def isBool : Expr → Bool
  | .BoolOp .. => true
  | _ => false
def ownT (T : Tb) (t : IT) : List (Str × Nat) := (slotsT t).map fun i => ((T.N[i]?).getD "", i)
def canT : IE → Bool
  | .neg _ | .ite _ _ _ => false
  | _ => true
def tupT : IT → Bool
  | .tup _ => true
  | _ => false
def tupX : Expr → Bool
  | .Tuple _ _ _ => true
  | _ => false
def nilE : IEs → Bool
  | .nil => true
  | .cons _ _ => false
/-- the builtins that have their rule -/
def bfOk : Bf → Bool
  | .len | .max2 | .min2 | .abs | .int | .sum | .all | .any | .tuple | .list | .sorted | .dict | .repr => true
  | _ => false
mutual
def chkE (T : Tb) (c : Sc) : IE → Expr → Bool
  | .var i, e => match e with
    | .Name x _ => decide (T.N[i]? = some x) && visB c x && nmOk x
    | _ => false
  | .con d, e => match e with
    | .Constant k _ _ => conB d k
    | _ => false
  | .glo x d, e => match e with
    | .Name y _ => decide (x = y) && glB c y && nmOk y && conG T y d
    | _ => false
  | .bin op a b, e => match e with
    | .BinOp l o r _ => decide (o = op) && chkE T c a l && chkE T c b r
    | _ => false
  | .neg a, e => match e with
    | .UnaryOp .USub l _ => chkE T c a l
    | _ => false
  | .cmp op a b, e => match e with
    | .Compare l [o] [r] _ => decide (o = op) && chkE T c a l && chkE T c b r && noSet r
    | _ => false
  | .chn op op' a b d, e => match e with
    | .Compare l [o, o'] [m, r] _ => decide (o = op) && decide (o' = op') && chkE T c a l && chkE T c b m && chkE T c d r && noSet r
    | _ => false
  | .and a b, e => match e with
    | .BoolOp .And (x :: y :: r) p => chkE T c a x && chkE T c b (.BoolOp .And (y :: r) p) && canT a
    | _ => false
  | .or a b, e => match e with
    | .BoolOp .Or (x :: y :: r) p => chkE T c a x && chkE T c b (.BoolOp .Or (y :: r) p) && canT a
    | _ => false
  | .one a, e => match e with
    | .BoolOp _ [x] _ => chkE T c a x && canT a
    | _ => false
  | .not a, e => match e with
    | .UnaryOp .Not x _ => chkE T c a x && canT a
    | _ => false
  | .ite q a b, e => match e with
    | .IfExp x y z _ => chkE T c q x && chkE T c a y && chkE T c b z && canT q
    | _ => false
  | .tup es, e => match e with
    | .Tuple xs _ _ => chkEs T c es xs
    | _ => false
  | .lst es, e => match e with
    | .List xs _ => chkEs T c es xs
    | _ => false
  | .dsp ks vs, e => match e with
    | .Dict [] [] _ => nilE ks && nilE vs
    | _ => false
  | .dis es, e => match e with
    | .Dict keys values _ => evenE es && decide (keys.length = values.length) && decide (keys ≠ []) && decide (keys.length ≤ 15) && chkP T c es keys values
    | _ => false
  | .isi k a, e => match e with
    | .Call (.Name x _) [y, .Name z _] [] _ => decide (x = "isinstance") && glB c x && (decide (z = isiN k) && glB c z && nst y) && chkE T c a y
    | _ => false
  | .call f es, e => match e with
    | .Call (.Name x _) xs [] _ => glB c x && nmOk x && fnG T x f xs.length && chkEs T c es xs
    | _ => false
  | .bf b es, e => match e with
    | .Call (.Name x _) (y :: ys) [] _ => decide (x = b.name) && bfOk b && glB c x && chkEs T c es (y :: ys)
    | _ => false
  | .bm m o es, e => match e with
    | .Call (.Attribute x n ap) xs [] cp => decide (n = m.name) && noSuper x && (ap.endLine == cp.line) && decide (xs.length < 19) && chkE T c o x && chkEs T c es xs
    | _ => false
  | .set0, e => match e with
    | .Call (.Name x _) [] [] _ => decide (x = "set") && glB c x
    | _ => false
  | .lrange es, e => match es with
    | .cons a .nil => match e with
      | .Call (.Name x _) [.Call (.Name y _) [z] [] _] [] _ => decide (x = "list") && glB c x && (decide (y = "range") && glB c y && nst z) && chkE T c a z
      | _ => false
    | _ => false
  | .ix o i, e => match e with
    | .Subscript x y _ => plainIx y && chkE T c o x && chkE T c i y
    | _ => false
  | .slc o lo hi, e => match e with
    | .Subscript x (.Slice l h none _) _ => chkE T c o x && chkO T c lo l && chkO T c hi h
    | _ => false
  | .rev _, _ => false
  | .lc a t it q, e => match e with
    | .ListComp elt [⟨tg, iter, ifs, 0⟩] scope _ => chkI T c it t tg iter && noSet iter && blkC T.N c.sc scope (ownT T t) && chkT T ⟨relS scope c.sc, some scope⟩ t tg && chkC T ⟨relS scope c.sc, some scope⟩ q ifs && chkE T ⟨relS scope c.sc, some scope⟩ a elt
    | _ => false
  | .lc2 a t it t2 it2 q, e => match e with
    | .ListComp elt [⟨tg, iter, [], 0⟩, ⟨tg1, iter1, ifs, 0⟩] scope _ => (chkI T c it t tg iter && noSet iter && noSet iter1 && blkC T.N c.sc scope (ownT T t ++ ownT T t2)) && (chkT T ⟨relS scope c.sc, some scope⟩ t tg && chkI T ⟨relS scope c.sc, some scope⟩ it2 t2 tg1 iter1 && chkT T ⟨relS scope c.sc, some scope⟩ t2 tg1) && (chkC T ⟨relS scope c.sc, some scope⟩ q ifs && chkE T ⟨relS scope c.sc, some scope⟩ a elt)
    | _ => false
  | .dc a b t it, e => match e with
    | .DictComp kx vx [⟨tg, iter, [], 0⟩] scope _ => (chkI T c it t tg iter && noSet iter && blkC T.N c.sc scope (ownT T t)) && (chkT T ⟨relS scope c.sc, some scope⟩ t tg && chkE T ⟨relS scope c.sc, some scope⟩ a kx && chkE T ⟨relS scope c.sc, some scope⟩ b vx)
    | _ => false
  | .sc _ _ _, _ => false
def chkO (T : Tb) (c : Sc) : IO → Option Expr → Bool
  | .none, e => match e with
    | none => true
    | some _ => false
  | .some a, e => match e with
    | some x => chkE T c a x
    | none => false
def chkC (T : Tb) (c : Sc) : IO → List Expr → Bool
  | .none, e => match e with
    | [] => true
    | _ :: _ => false
  | .some a, e => match e with
    | [x] => chkE T c a x && canT a
    | _ => false
/-- a dict's display: key, value, key, value, .. -/
def chkP (T : Tb) (c : Sc) : IEs → List (Option Expr) → List Expr → Bool
  | .nil, ks, vs => (match ks with
    | [] => true
    | _ :: _ => false) && vs.isEmpty
  | .cons _ .nil, _, _ => false
  | .cons a (.cons b r), ks, vs => match ks, vs with
    | some k :: ks, v :: vs => chkE T c a k && chkE T c b v && chkP T c r ks vs
    | _, _ => false
def chkEs (T : Tb) (c : Sc) : IEs → List Expr → Bool
  | .nil, e => match e with
    | [] => true
    | _ :: _ => false
  | .cons a as, e => match e with
    | x :: xs => nst x && chkE T c a x && chkEs T c as xs
    | [] => false
def chkI (T : Tb) (c : Sc) : II → IT → Expr → Expr → Bool
  | .val a, _, _, e => chkE T c a e
  | .range es, _, _, e => match e with
    | .Call (.Name x _) xs [] _ => decide (x = "range") && glB c x && decide (0 < xs.length) && decide (xs.length < 4) && chkEs T c es xs
    | _ => false
  | .enum a, t, tg, e => match e with
    | .Call (.Name x _) [y] [] _ => decide (x = "enumerate") && glB c x && nst y && tupT t && tupX tg && chkE T c a y
    | _ => false
  | .zip _ _, _, _, _ => false
/-- a comprehension's target -/
def chkT (T : Tb) (c : Sc) : IT → Expr → Bool
  | .nm i, e => match e with
    | .Name x _ => decide (T.N[i]? = some x) && locB c x
    | _ => false
  | .sub _ _, _ => false
  | .tup ts, e => match e with
    | .Tuple es _ _ => chkTs T c ts es
    | _ => false
def chkTs (T : Tb) (c : Sc) : ITs → List Expr → Bool
  | .nil, e => match e with
    | [] => true
    | _ :: _ => false
  | .cons t ts, e => match e with
    | x :: xs => nst x && chkT T c t x && chkTs T c ts xs
    | [] => false
end
mutual
/-- a store's target -/
def chkA (T : Tb) (c : Sc) : IT → Expr → Bool
  | .nm i, e => match e with
    | .Name x _ => decide (T.N[i]? = some x) && locB c x
    | _ => false
  | .sub o i, e => match e with
    | .Subscript x y _ => plainIx y && chkE T c o x && chkE T c i y
    | _ => false
  | .tup ts, e => match e with
    | .Tuple es _ _ => chkAs T c ts es
    | _ => false
def chkAs (T : Tb) (c : Sc) : ITs → List Expr → Bool
  | .nil, e => match e with
    | [] => true
    | _ :: _ => false
  | .cons t ts, e => match e with
    | x :: xs => nst x && chkA T c t x && chkAs T c ts xs
    | [] => false
end
/-- the built-in names that no global hides -/
def bltNames : List Str := ["len", "max", "min", "sum", "abs", "sorted", "tuple", "list", "dict", "set", "all", "any", "repr", "str", "int", "range", "enumerate", "zip", "isinstance", "type", "ValueError"]
/-- a global is what the table says -/
def GOk (X : Cx) (F : Fns) (ca : Nat → Addr) (k : Nat) (x : Str) : Gv → Prop
  | .con d => ∃ v u, X.mg x = some u ∧ RelV v u ∧ ∀ μ H, Rep X.K μ H d v
  | .fn f ps => Own X F ca k f x ps
structure Ok (T : Tb) (c : Sc) (F : Fns) (ca : Nat → Addr) (k : Nat) (X : Cx) : Prop where
  N : X.N = T.N
  nd : X.N.Nodup
  sc : X.env.scope = c.sc
  fl : ∀ x, (match c.fl with | none => True | some s => s.names.lookup x = some .cell) → X.fn x = true
  calm : X.calm = true
  room : Room k X.A
  gd : X.A.guards = some []
  bl : ∀ x ∈ bltNames, X.mg x = none
  gl : ∀ x v, T.gl x = some v → GOk X F ca k x v
section
variable {T : Tb} {c : Sc} {F : Fns} {ca : Nat → Addr} {k : Nat} {X : Cx} {E : XK}
theorem Ok.hu (O : Ok T c F ca k X) : X.A.units + 100 < cLine := by have := O.room.un; omega
theorem Ok.glob (O : Ok T c F ca k X) {x : Str} (h : glB c x = true) : Gl X x := by
  show X.env.scope.names.lookup x = _
  rw [O.sc]
  exact of_decide_eq_true h
theorem Ok.vis (O : Ok T c F ca k X) {x : Str} (h : visB c x = true) : Vis X.env.scope x := by
  rw [O.sc]
  unfold visB at h
  split at h
  · exact .inl (by assumption)
  · exact .inr (.inl (by assumption))
  · exact .inr (.inr (by assumption))
  · cases h
theorem Ok.loc (O : Ok T c F ca k X) {x : Str} (h : locB c x = true) : Loc X.env.scope x ∧ (X.fn x = true ∨ X.env.scope.names.lookup x = some .local) := by
  rw [O.sc]
  unfold locB at h
  split at h
  · exact ⟨.inl (by assumption), .inr (by assumption)⟩
  · refine ⟨.inr (by assumption), .inl (O.fl x ?_)⟩
    split at h
    · trivial
    · exact of_decide_eq_true h
  · cases h
theorem nm1 {x : Str} (h : nmOk x = true) : (x == ("__debug__" : Str)) = false := by
  unfold nmOk at h
  simp only [Bool.and_eq_true, Bool.not_eq_true'] at h
  exact h.1.1
theorem nm2 {x : Str} (h : nmOk x = true) : (x == ("__classdict__" : Str)) = false := by
  unfold nmOk at h
  simp only [Bool.and_eq_true, Bool.not_eq_true'] at h
  exact h.1.2
theorem nm3 {x : Str} (h : nmOk x = true) : x ≠ ("__name__" : Str) := by
  unfold nmOk at h
  simp only [Bool.and_eq_true, decide_eq_true_eq] at h
  exact h.2
theorem Ok.blk (O : Ok T c F ca k X) (s : Shared) (H : Hp) (scope : Scope) (C : Addr) (cl : List (Str × Addr)) (fp : List Addr) : Ok T ⟨relS scope c.sc, some scope⟩ F ca k (X.blk s H scope (compEnvC scope cl C X.env) fp) := by
  refine ⟨O.N, O.nd, ?_, fun x h => ?_, O.calm, O.room, O.gd, O.bl, fun x v h => ?_⟩
  · show relS scope X.env.scope = _
    rw [O.sc]
  · show (scope.names.lookup x == some NameKind.cell) = true
    have h : scope.names.lookup x = some .cell := h
    rw [h]
    rfl
  · have q := O.gl x v h
    cases v with
    | con d => exact q
    | fn f ps =>
      obtain ⟨a, fd, h1, h2, h3, h4⟩ := (show Own X F ca k f x ps from q).ex
      exact (⟨a, fd, h1, h2, h3, h4⟩ : Own (X.blk s H scope (compEnvC scope cl C X.env) fp) F ca k f x ps)
theorem noSet_fold {e : Expr} {env : PySem.Env} (h : noSet e = true) : ∀ x, foldedSetIterable e env x = pure x := by
  intro x
  cases e <;> first | rfl | cases h
theorem noSet_marks {e : Expr} {op : CmpOp} (h : noSet e = true) : behindInMarks op e = false := by
  cases e <;> first | rfl | cases h
theorem noComp_swaps {e : Expr} {t : Option Expr} {n : Nat} {env : PySem.Env} (h : noComp e = true) : swapsWith e t n env = pure false := by
  cases e <;> first | rfl | cases h
theorem plainIx_ok {e : Expr} (h : plainIx e = true) : PlainIx e := by
  intro o i
  cases e <;> first | rfl | cases h
theorem plainIx_as {o i : Expr} {pos : Pos} {env : PySem.Env} (h : plainIx i = true) : ∀ v, assign (.Subscript o i pos) env v = (do
      let ov ← holding [v] (eval o env)
      let iv ← holding [v, ov] (eval i env)
      standAt pos
      holding [v, ov, iv] (setItem ov iv v)
      release [v, ov, iv] []) := by
  intro v
  cases i <;> first | rfl | cases h
theorem noSuper_base {o : Expr} {attr : Str} {env : PySem.Env} {w : Sem Value} (h : noSuper o = true) : attributeBase o attr env w = w := by
  unfold attributeBase
  split
  · cases h
  · rfl
theorem as_cons {e : Expr} {es : List Expr} {env : PySem.Env} (h : nst e = true) : assignEach (e :: es) env = (false, assign e env) :: assignEach es env := by
  cases e <;> first | rfl | cases h
theorem chkEs_all : ∀ {as : IEs} {es : List Expr}, chkEs T c as es = true → es.all nst = true ∧ ∀ ρ S ds S1, evEs F as ρ S = .ok ds S1 → ds.length = es.length
  | .nil, [], _ => ⟨rfl, fun ρ S ds S1 h => by cases h; rfl⟩
  | .nil, _ :: _, h => by cases h
  | .cons _ _, [], h => by cases h
  | .cons a as, x :: xs, h => by
    have h : (nst x && chkE T c a x && chkEs T c as xs) = true := h
    have q := Bool.and_eq_true_iff.mp h
    have q1 := Bool.and_eq_true_iff.mp q.1
    obtain ⟨i1, i2⟩ := chkEs_all q.2
    refine ⟨?_, fun ρ S ds S1 h => ?_⟩
    · rw [List.all_cons, q1.1, i1]
      rfl
    · have h : ((evE F a ρ S).bind fun d S1 => (evEs F as ρ S1).bind fun ds S2 => .ok (d :: ds) S2) = .ok ds S1 := h
      cases h1 : evE F a ρ S with
      | ok d S2 =>
        rw [h1] at h
        have h : ((evEs F as ρ S2).bind fun ds S3 => .ok (d :: ds) S3) = .ok ds S1 := h
        cases h2 : evEs F as ρ S2 with
        | ok ds2 S3 =>
          rw [h2] at h
          cases h
          exact congrArg (· + 1) (i2 _ _ _ _ h2)
        | ex _ _ _ => rw [h2] at h; cases h
        | bad => rw [h2] at h; cases h
      | ex _ _ _ => rw [h1] at h; cases h
      | bad => rw [h1] at h; cases h
theorem chkTs_len {env : PySem.Env} : ∀ {ts : ITs} {es : List Expr}, chkTs T c ts es = true → (assignEach es env).length = slotsTs.len ts ∧ (assignEach es env).findIdx? (·.1) = none
  | .nil, [], _ => ⟨rfl, rfl⟩
  | .nil, _ :: _, h => by cases h
  | .cons _ _, [], h => by cases h
  | .cons t ts, x :: xs, h => by
    have h : (nst x && chkT T c t x && chkTs T c ts xs) = true := h
    have q := Bool.and_eq_true_iff.mp h
    have q1 := Bool.and_eq_true_iff.mp q.1
    obtain ⟨i1, i2⟩ := chkTs_len q.2
    rw [as_cons q1.1]
    refine ⟨congrArg (· + 1) i1, ?_⟩
    rw [List.findIdx?_cons, i2]
    rfl
theorem chkAs_len {env : PySem.Env} : ∀ {ts : ITs} {es : List Expr}, chkAs T c ts es = true → (assignEach es env).length = slotsTs.len ts ∧ (assignEach es env).findIdx? (·.1) = none
  | .nil, [], _ => ⟨rfl, rfl⟩
  | .nil, _ :: _, h => by cases h
  | .cons _ _, [], h => by cases h
  | .cons t ts, x :: xs, h => by
    have h : (nst x && chkA T c t x && chkAs T c ts xs) = true := h
    have q := Bool.and_eq_true_iff.mp h
    have q1 := Bool.and_eq_true_iff.mp q.1
    obtain ⟨i1, i2⟩ := chkAs_len q.2
    rw [as_cons q1.1]
    refine ⟨congrArg (· + 1) i1, ?_⟩
    rw [List.findIdx?_cons, i2]
    rfl
/-- the rule of a builtin -/
theorem bf_rule (hu : X.A.units + 100 < cLine) (hg : X.A.guards = some []) (hc : X.calm = true) {b : Bf} (h : bfOk b = true) : (∃ id, bootBuiltins b.name = some (.builtin id) ∧ CallR X (.builtin id) (rN (gX X ca) E (bfD b))) ∨ ∃ t, bootBuiltins b.name = some (.type t) ∧ CallR X (.type t) (rN (gX X ca) E (bfD b)) := by
  cases b <;> first | cases h | skip
  · exact .inl ⟨_, by decide +kernel, b_len⟩
  · exact .inl ⟨_, boot_max, b_max2 hc⟩
  · exact .inl ⟨_, boot_min, b_min2 hc⟩
  · exact .inl ⟨_, boot_sum, b_sum hc⟩
  · exact .inl ⟨_, boot_abs, b_abs⟩
  · exact .inl ⟨_, boot_sorted, b_sorted hu hc⟩
  · exact .inr ⟨_, boot_tuple, b_tuple⟩
  · exact .inr ⟨_, boot_list, b_list⟩
  · exact .inr ⟨_, boot_dict, b_dict hc⟩
  · exact .inl ⟨_, boot_all, b_all hc⟩
  · exact .inl ⟨_, boot_any, b_any hc⟩
  · exact .inl ⟨_, boot_repr, b_repr hu hg⟩
  · exact .inr ⟨_, boot_int, b_int⟩
theorem bf_names (b : Bf) : b.name ∈ bltNames ∧ nmOk b.name = true := by cases b <;> decide +kernel
end
end Iv

set_option maxRecDepth 10000
/-! Iv18: the interpreter tells what the model does: expressions. -/
namespace Iv
open PySem PySem.Spec PyProof.Rows L2
structure PR (X : Cx) (ca : Nat → Addr) (E : XK) (F : Fns) (a : IE) (e : Expr) : Prop where
  pe : PE X e (tE (gX X ca) E F a)
  pt : canT a = true → PT X e (tT (gX X ca) E F a)
  pw : isBool e = true → PW X e (tT (gX X ca) E F a)
theorem tru3 {a b d : Bool} (h : (a && b && d) = true) : a = true ∧ b = true ∧ d = true := by cases a <;> cases b <;> cases d <;> simp_all
theorem tru2 {a b : Bool} (h : (a && b) = true) : a = true ∧ b = true := Bool.and_eq_true_iff.mp h
section
variable {T : Tb} {F : Fns} {ca : Nat → Addr} {k : Nat}
theorem plain_bool {e : Expr} (p : plainT e = true) (z : isBool e = true) : False := by
  unfold isBool at z
  split at z
  · cases p
  · cases z
theorem PR.plain {X : Cx} {E : XK} {a : IE} {e : Expr} (h : PE X e (tE (gX X ca) E F a)) (p : plainT e = true) : PR X ca E F a e := ⟨h, fun _ => t_of_e h p, fun z => (plain_bool p z).elim⟩
theorem con_ok {X : Cx} {E : XK} {d : D} {q : Const} {j : Nat} {pos : Pos} (h : conB d q = true) : PE X (.Constant q j pos) (tE (gX X ca) E F (.con d)) := by
  cases d <;> cases q <;> first | cases h | skip
  · exact e_con pe_non fun _ _ => rfl
  · obtain rfl := of_decide_eq_true h
    exact e_con pe_bl fun _ _ => rfl
  · obtain rfl := of_decide_eq_true h
    exact e_con pe_int fun _ _ => rfl
  · obtain rfl := of_decide_eq_true h
    exact e_con pe_str fun _ _ => rfl
theorem t_one {X : Cx} {E : XK} {a : IE} : tT (gX X ca) E F (.one a) = tT (gX X ca) E F a := rfl
theorem own_ix {T : Tb} {t : IT} : (ownT T t).map (·.2) = slotsT t := by
  unfold ownT
  rw [List.map_map]
  exact List.map_id _
mutual
theorem snE : ∀ (a : IE) {c : Sc} {X : Cx} {E : XK} {e : Expr}, Ok T c F ca k X → Passes (L2.CX X.prog X.w) X E → chkE T c a e = true → PR X ca E F a e
  | .var i, c, X, E, e, O, hx, h => by
    simp only [chkE] at h
    split at h
    · obtain ⟨h1, h2, h3⟩ := tru3 h
      exact .plain (e_var (pe_var (by rw [O.N]; exact of_decide_eq_true h1) (O.vis h2) (nm1 h3) (nm2 h3))) rfl
    · cases h
  | .con d, c, X, E, e, O, hx, h => by
    simp only [chkE] at h
    split at h
    · exact .plain (con_ok h) rfl
    · cases h
  | .glo x d, c, X, E, e, O, hx, h => by
    simp only [chkE] at h
    split at h
    · obtain ⟨h, h4⟩ := tru2 h
      obtain ⟨h1, h2, h3⟩ := tru3 h
      obtain rfl := of_decide_eq_true h1
      unfold conG at h4
      split at h4
      · rename_i hg
        obtain rfl := of_decide_eq_true h4
        obtain ⟨v, u, g1, g2, g3⟩ := O.gl _ _ hg
        exact .plain (e_glo (pe_glob (O.glob h2) g1 g2 (nm1 h3)) g3) rfl
      · cases h4
    · cases h
  | .bin op a b, c, X, E, e, O, hx, h => by
    simp only [chkE] at h
    split at h
    · obtain ⟨h1, h2, h3⟩ := tru3 h
      obtain rfl := of_decide_eq_true h1
      exact .plain (e_bin (snE a O hx h2).pe (snE b O hx h3).pe) rfl
    · cases h
  | .neg a, c, X, E, e, O, hx, h => by
    simp only [chkE] at h
    split at h
    · exact ⟨e_neg (snE a O hx h).pe, (fun z => by cases z), (fun z => by cases z)⟩
    · cases h
  | .cmp op a b, c, X, E, e, O, hx, h => by
    simp only [chkE] at h
    split at h
    · obtain ⟨h, h4⟩ := tru2 h
      obtain ⟨h1, h2, h3⟩ := tru3 h
      obtain rfl := of_decide_eq_true h1
      exact ⟨e_cmp O.hu (snE a O hx h2).pe (snE b O hx h3).pe (noSet_marks h4), fun _ => t_cmp O.hu (snE a O hx h2).pe (snE b O hx h3).pe (noSet_marks h4), fun z => by cases z⟩
    · cases h
  | .chn op op' a b d, c, X, E, e, O, hx, h => by
    simp only [chkE] at h
    split at h
    · obtain ⟨h, h6⟩ := tru2 h
      obtain ⟨h, h4, h5⟩ := tru3 h
      obtain ⟨h1, h2, h3⟩ := tru3 h
      obtain rfl := of_decide_eq_true h1
      obtain rfl := of_decide_eq_true h2
      exact ⟨e_chn O.hu (snE a O hx h3).pe (snE b O hx h4).pe (snE d O hx h5).pe (pe_chain (op_cmp O.hu) (op_cmp O.hu) (snE a O hx h3).pe (snE b O hx h4).pe (snE d O hx h5).pe (noSet_marks h6)), (fun _ => t_chn O.hu (snE a O hx h3).pe (snE b O hx h4).pe (snE d O hx h5).pe (noSet_marks h6)), (fun z => by cases z)⟩
    · cases h
  | .and a b, c, X, E, e, O, hx, h => by
    simp only [chkE] at h
    split at h
    · obtain ⟨h1, h2, h3⟩ := tru3 h
      have w := w_and ((snE a O hx h1).pt h3) ((snE b O hx h2).pw rfl)
      exact ⟨e_and (snE a O hx h1).pe (snE b O hx h2).pe, fun _ => w.pt, fun _ => w⟩
    · cases h
  | .or a b, c, X, E, e, O, hx, h => by
    simp only [chkE] at h
    split at h
    · obtain ⟨h1, h2, h3⟩ := tru3 h
      have w := w_or ((snE a O hx h1).pt h3) ((snE b O hx h2).pw rfl)
      exact ⟨e_or (snE a O hx h1).pe (snE b O hx h2).pe, fun _ => w.pt, fun _ => w⟩
    · cases h
  | .one a, c, X, E, e, O, hx, h => by
    simp only [chkE] at h
    split at h
    · rename_i op x p
      obtain ⟨h1, h2⟩ := tru2 h
      have t := (snE a O hx h1).pt h2
      have w : PW X (.BoolOp op [x] p) (tT (gX X ca) E F (.one a)) := by
        cases op with
        | And => exact pw_and1 t
        | Or => exact pw_or1 t
      exact ⟨pe_one (snE a O hx h1).pe, fun _ => w.pt, fun _ => w⟩
    · cases h
  | .not a, c, X, E, e, O, hx, h => by
    simp only [chkE] at h
    split at h
    · obtain ⟨h1, h2⟩ := tru2 h
      exact ⟨e_not (snE a O hx h1).pe, fun _ => t_not ((snE a O hx h1).pt h2), fun z => by cases z⟩
    · cases h
  | .ite q a b, c, X, E, e, O, hx, h => by
    simp only [chkE] at h
    split at h
    · obtain ⟨h, h4⟩ := tru2 h
      obtain ⟨h1, h2, h3⟩ := tru3 h
      exact ⟨e_ite ((snE q O hx h1).pt h4) (snE a O hx h2).pe (snE b O hx h3).pe, (fun z => by cases z), (fun z => by cases z)⟩
    · cases h
  | .tup es, c, X, E, e, O, hx, h => by
    simp only [chkE] at h
    split at h
    · exact .plain (e_tup (snEs es O hx h)) rfl
    · cases h
  | .lst es, c, X, E, e, O, hx, h => by
    simp only [chkE] at h
    split at h
    · exact .plain (e_lst (snEs es O hx h)) rfl
    · cases h
  | .dsp ks vs, c, X, E, e, O, hx, h => by
    simp only [chkE] at h
    split at h
    · obtain ⟨h1, h2⟩ := tru2 h
      cases ks with
      | cons _ _ => cases h1
      | nil =>
        cases vs with
        | cons _ _ => cases h2
        | nil => exact .plain e_dct0 rfl
    · cases h
  | .call f es, c, X, E, e, O, hx, h => by
    simp only [chkE] at h
    split at h
    · rename_i x p xs pos
      obtain ⟨h, h4⟩ := tru2 h
      obtain ⟨h1, h2, h3⟩ := tru3 h
      unfold fnG at h3
      split at h3
      · rename_i g ps hg
        obtain ⟨e1, e2⟩ := tru2 h3
        obtain rfl := of_decide_eq_true e1
        refine .plain (e_call (O.gl _ _ hg) O.room O.gd hx (O.glob h1) (nm1 h2) (snEs es O hx h4) (chkEs_all (F := F) h4).1 fun z => ?_) rfl
        subst z
        cases es with
        | nil => rfl
        | cons _ _ => cases h4
      · cases h3
    · cases h
  | .bf b es, c, X, E, e, O, hx, h => by
    simp only [chkE] at h
    split at h
    · obtain ⟨h, h4⟩ := tru2 h
      obtain ⟨h1, h2, h3⟩ := tru3 h
      obtain rfl := of_decide_eq_true h1
      obtain ⟨n1, n2⟩ := bf_names b
      rcases bf_rule (X := X) (ca := ca) (E := E) O.hu O.gd O.calm h2 with ⟨id, hv, hc⟩ | ⟨t, hv, hc⟩
      · exact .plain (e_bfn hc (O.glob h3) (O.bl _ n1) hv (snEs es O hx h4) (nm3 n2) (nm1 n2) (chkEs_all (F := F) h4).1) rfl
      · exact .plain (e_bty hc (O.glob h3) (O.bl _ n1) hv (snEs es O hx h4) (nm3 n2) (nm1 n2) (chkEs_all (F := F) h4).1) rfl
    · cases h
  | .bm m o es, c, X, E, e, O, hx, h => by
    simp only [chkE] at h
    split at h
    · rename_i x n ap xs cp
      obtain ⟨h, h5, h6⟩ := tru3 h
      obtain ⟨h, h3, h4⟩ := tru3 h
      obtain ⟨h1, h2⟩ := tru2 h
      obtain rfl := of_decide_eq_true h1
      have hl := of_decide_eq_true h4
      have pa := snEs es O hx h6
      have al := (chkEs_all (F := F) h6).1
      cases xs with
      | nil =>
        cases es with
        | nil => exact .plain (e_bm0 O.hu (snE o O hx h5).pe (noSuper_base h2) h3) rfl
        | cons _ _ => cases h6
      | cons y ys => exact .plain (e_bm O.hu (snE o O hx h5).pe pa (noSuper_base h2) h3 al (Nat.lt_succ_of_lt hl)) rfl
    · cases h
  | .set0, c, X, E, e, O, hx, h => by
    simp only [chkE] at h
    split at h
    · obtain ⟨h1, h2⟩ := tru2 h
      obtain rfl := of_decide_eq_true h1
      exact .plain (e_set0 (O.glob h2) (O.bl _ (by decide +kernel)) boot_set (by decide +kernel) (by decide +kernel)) rfl
    · cases h
  | .dis es, c, X, E, e, O, hx, h => by
    simp only [chkE] at h
    split at h
    · obtain ⟨h, h5⟩ := tru2 h
      obtain ⟨h, h3, h4⟩ := tru3 h
      obtain ⟨h1, h2⟩ := tru2 h
      obtain ⟨hp, ha⟩ := snP es O hx h5
      exact .plain (e_dis hp h1 ha (of_decide_eq_true h2) (of_decide_eq_true h3) (of_decide_eq_true h4)) rfl
    · cases h
  | .isi k a, c, X, E, e, O, hx, h => by
    simp only [chkE] at h
    split at h
    · obtain ⟨h, h4⟩ := tru2 h
      obtain ⟨h, h3⟩ := tru2 h
      obtain ⟨h1, h2⟩ := tru2 h
      obtain ⟨h, g3⟩ := tru2 h3
      obtain ⟨g1, g2⟩ := tru2 h
      obtain rfl := of_decide_eq_true h1
      obtain rfl := of_decide_eq_true g1
      exact .plain (e_isi (O.glob h2) (O.bl _ (by decide +kernel)) (O.glob g2) (O.bl _ (by cases k <;> decide +kernel)) (snE a O hx h4).pe g3) rfl
    · cases h
  | .lrange .nil, c, X, E, e, O, hx, h => by cases h
  | .lrange (.cons _ (.cons _ _)), c, X, E, e, O, hx, h => by cases h
  | .lrange (.cons a .nil), c, X, E, e, O, hx, h => by
    simp only [chkE] at h
    split at h
    · obtain ⟨h, h4⟩ := tru2 h
      obtain ⟨h, h3⟩ := tru2 h
      obtain ⟨h1, h2⟩ := tru2 h
      obtain ⟨h, g3⟩ := tru2 h3
      obtain ⟨g1, g2⟩ := tru2 h
      obtain rfl := of_decide_eq_true h1
      obtain rfl := of_decide_eq_true g1
      exact .plain (e_lrange1 O.calm (O.glob h2) (O.bl _ (by decide +kernel)) (O.glob g2) (O.bl _ (by decide +kernel)) (snE a O hx h4).pe (star_cons g3) (star_cons rfl)) rfl
    · cases h
  | .ix o i, c, X, E, e, O, hx, h => by
    simp only [chkE] at h
    split at h
    · obtain ⟨h1, h2, h3⟩ := tru3 h
      exact .plain (e_ix O.hu (snE o O hx h2).pe (snE i O hx h3).pe (plainIx_ok h1)) rfl
    · cases h
  | .slc o lo hi, c, X, E, e, O, hx, h => by
    simp only [chkE] at h
    split at h
    · obtain ⟨h1, h2, h3⟩ := tru3 h
      exact .plain (e_slc (snE o O hx h1).pe (snO lo O hx h2) (snO hi O hx h3)) rfl
    · cases h
  | .rev _, c, X, E, e, O, hx, h => by cases h
  | .lc a t it q, c, X, E, e, O, hx, h => by
    simp only [chkE] at h
    split at h
    · rename_i elt tg iter ifs scope pos
      obtain ⟨h, h5, h6⟩ := tru3 h
      obtain ⟨h, h3, h4⟩ := tru3 h
      obtain ⟨h1, h2⟩ := tru2 h
      have ok : BlkOk X.N X.env.scope scope (ownT T t) := by
        rw [O.N, O.sc]
        exact blkOk_by h3
      exact .plain (e_lc O.calm O.nd (snI it t O hx h1) ok own_ix (fun s H C cl fp => snT t (O.blk s H scope C cl fp) h4) (fun s H C cl fp => snC q (O.blk s H scope C cl fp) passL h5) (fun s H C cl fp => (snE a (O.blk s H scope C cl fp) passL h6).pe) (noSet_fold h2)) rfl
    · cases h
  | .lc2 a t it t2 it2 q, c, X, E, e, O, hx, h => by
    simp only [chkE] at h
    split at h
    · rename_i elt tg iter tg1 iter1 ifs scope pos
      obtain ⟨ha, hb, h9⟩ := tru3 h
      obtain ⟨hq, he⟩ := tru2 h9
      obtain ⟨ha, h3, h4⟩ := tru3 ha
      obtain ⟨h1, h2⟩ := tru2 ha
      obtain ⟨h5, h6, h7⟩ := tru3 hb
      have ok : BlkOk X.N X.env.scope scope (ownT T t ++ ownT T t2) := by
        rw [O.N, O.sc]
        exact blkOk_by h4
      exact .plain (e_lc2 O.calm O.nd (snI it t O hx h1) ok (by rw [List.map_append, own_ix, own_ix]) (fun s H C cl fp => snT t (O.blk s H scope C cl fp) h5) (fun s H C cl fp => snI it2 t2 (O.blk s H scope C cl fp) passL h6) (fun s H C cl fp => snT t2 (O.blk s H scope C cl fp) h7) (fun s H C cl fp => snC q (O.blk s H scope C cl fp) passL hq) (fun s H C cl fp => (snE a (O.blk s H scope C cl fp) passL he).pe) (noSet_fold h2) (fun env x => noSet_fold h3 x)) rfl
    · cases h
  | .dc a b t it, c, X, E, e, O, hx, h => by
    simp only [chkE] at h
    split at h
    · rename_i kx vx tg iter scope pos
      obtain ⟨ha, hb⟩ := tru2 h
      obtain ⟨h1, h2, h3⟩ := tru3 ha
      obtain ⟨h4, h5, h6⟩ := tru3 hb
      have ok : BlkOk X.N X.env.scope scope (ownT T t) := by
        rw [O.N, O.sc]
        exact blkOk_by h3
      exact .plain (e_dc O.calm O.nd (snI it t O hx h1) ok own_ix (fun s H C cl fp => snT t (O.blk s H scope C cl fp) h4) (fun s H C cl fp => (snE a (O.blk s H scope C cl fp) passL h5).pe) (fun s H C cl fp => (snE b (O.blk s H scope C cl fp) passL h6).pe) (noSet_fold h2)) rfl
    · cases h
  | .sc _ _ _, c, X, E, e, O, hx, h => by cases h
theorem snP : ∀ (es : IEs) {c : Sc} {X : Cx} {E : XK} {keys : List (Option Expr)} {values : List Expr} {pos : Pos}, Ok T c F ca k X → Passes (L2.CX X.prog X.w) X E → chkP T c es keys values = true → PPs X pos keys values (prsOf (gX X ca) E F es) ∧ keys.all (·.isSome) = true
  | .nil, c, X, E, keys, values, pos, O, hx, h => by
    simp only [chkP] at h
    cases keys with
    | cons _ _ => cases h
    | nil =>
      cases values with
      | cons _ _ => cases h
      | nil => exact ⟨pps_nil, rfl⟩
  | .cons _ .nil, c, X, E, keys, values, pos, O, hx, h => by cases h
  | .cons a (.cons b r), c, X, E, keys, values, pos, O, hx, h => by
    simp only [chkP] at h
    split at h
    · obtain ⟨h1, h2, h3⟩ := tru3 h
      obtain ⟨hp, ha⟩ := snP r (pos := pos) O hx h3
      exact ⟨pps_cons (snE a O hx h1).pe (snE b O hx h2).pe hp, by rw [List.all_cons, ha]; rfl⟩
    · cases h
theorem snO : ∀ (a : IO) {c : Sc} {X : Cx} {E : XK} {e : Option Expr}, Ok T c F ca k X → Passes (L2.CX X.prog X.w) X E → chkO T c a e = true → PO X e (tEo (gX X ca) E F a)
  | .none, c, X, E, e, O, hx, h => by
    cases e with
    | none => exact o_none
    | some _ => cases h
  | .some a, c, X, E, e, O, hx, h => by
    cases e with
    | none => cases h
    | some x => exact o_some (snE a O hx h).pe
theorem snC : ∀ (a : IO) {c : Sc} {X : Cx} {E : XK} {e : List Expr}, Ok T c F ca k X → Passes (L2.CX X.prog X.w) X E → chkC T c a e = true → PTs X e (tC (gX X ca) E F a)
  | .none, c, X, E, e, O, hx, h => by
    cases e with
    | nil => exact c_nil
    | cons _ _ => cases h
  | .some a, c, X, E, e, O, hx, h => by
    simp only [chkC] at h
    split at h
    · obtain ⟨h1, h2⟩ := tru2 h
      exact c_one ((snE a O hx h1).pt h2)
    · cases h
theorem snEs : ∀ (a : IEs) {c : Sc} {X : Cx} {E : XK} {e : List Expr}, Ok T c F ca k X → Passes (L2.CX X.prog X.w) X E → chkEs T c a e = true → PA X e (tEs (gX X ca) E F a)
  | .nil, c, X, E, e, O, hx, h => by
    cases e with
    | nil => exact a_nil
    | cons _ _ => cases h
  | .cons a as, c, X, E, e, O, hx, h => by
    cases e with
    | nil => cases h
    | cons x xs =>
      obtain ⟨h1, h2, h3⟩ := tru3 h
      exact a_cons (snE a O hx h2).pe (snEs as O hx h3) h1
theorem snI : ∀ (a : II) (t : IT) {c : Sc} {X : Cx} {E : XK} {tg e : Expr}, Ok T c F ca k X → Passes (L2.CX X.prog X.w) X E → chkI T c a t tg e = true → PI X tg e (tI (gX X ca) E F t a)
  | .val a, t, c, X, E, tg, e, O, hx, h => i_val (snE a O hx h).pe
  | .range es, t, c, X, E, tg, e, O, hx, h => by
    simp only [chkI] at h
    split at h
    · obtain ⟨h, h4, h5⟩ := tru3 h
      obtain ⟨h1, h2, h3⟩ := tru3 h
      obtain rfl := of_decide_eq_true h1
      obtain ⟨a1, a2⟩ := chkEs_all (F := F) h5
      exact i_range (O.glob h2) (O.bl _ (by decide +kernel)) (snEs es O hx h5) ⟨of_decide_eq_true h3, of_decide_eq_true h4⟩ a1 a2
    · cases h
  | .enum a, t, c, X, E, tg, e, O, hx, h => by
    simp only [chkI] at h
    split at h
    · obtain ⟨h, h5, h6⟩ := tru3 h
      obtain ⟨h, h3, h4⟩ := tru3 h
      obtain ⟨h1, h2⟩ := tru2 h
      obtain rfl := of_decide_eq_true h1
      cases t with
      | tup ts =>
        unfold tupX at h5
        split at h5
        · exact i_enum (O.glob h2) (O.bl _ (by decide +kernel)) (snE a O hx h6).pe h3
        · cases h5
      | nm _ => cases h4
      | sub _ _ => cases h4
    · cases h
  | .zip _ _, t, c, X, E, tg, e, O, hx, h => by cases h
theorem snT : ∀ (a : IT) {c : Sc} {X : Cx} {e : Expr}, Ok T c F ca k X → chkT T c a e = true → PG X e (gB (gX X ca) a)
  | .nm i, c, X, e, O, h => by
    simp only [chkT] at h
    split at h
    · obtain ⟨h1, h2⟩ := tru2 h
      obtain ⟨l1, l2⟩ := O.loc h2
      exact b_name (pg_name O.nd (by rw [O.N]; exact of_decide_eq_true h1) l1 l2)
    · cases h
  | .sub _ _, c, X, e, O, h => by cases h
  | .tup ts, c, X, e, O, h => by
    simp only [chkT] at h
    split at h
    · obtain ⟨n1, n2⟩ := chkTs_len (env := X.env) h
      exact b_tup O.calm (snTs ts O h) n1 n2 rfl
    · cases h
theorem snTs : ∀ (a : ITs) {c : Sc} {X : Cx} {e : List Expr}, Ok T c F ca k X → chkTs T c a e = true → PGs X e (gBs (gX X ca) a)
  | .nil, c, X, e, O, h => by
    cases e with
    | nil => exact b_nil
    | cons _ _ => cases h
  | .cons a as, c, X, e, O, h => by
    cases e with
    | nil => cases h
    | cons x xs =>
      obtain ⟨h1, h2, h3⟩ := tru3 h
      exact b_cons (snT a O h2) (snTs as O h3) (by rw [as_cons h1]; rfl)
end
mutual
theorem snA : ∀ (a : IT) {c : Sc} {X : Cx} {E : XK} {e : Expr}, Ok T c F ca k X → Passes (L2.CX X.prog X.w) X E → chkA T c a e = true → PG X e (gA (gX X ca) E F a)
  | .nm i, c, X, E, e, O, hx, h => by
    simp only [chkA] at h
    split at h
    · obtain ⟨h1, h2⟩ := tru2 h
      obtain ⟨l1, l2⟩ := O.loc h2
      exact s_name (pg_name O.nd (by rw [O.N]; exact of_decide_eq_true h1) l1 l2)
    · cases h
  | .sub o i, c, X, E, e, O, hx, h => by
    simp only [chkA] at h
    split at h
    · obtain ⟨h1, h2, h3⟩ := tru3 h
      exact s_sub (by have := O.hu; omega) (snE o O hx h2).pe (snE i O hx h3).pe (plainIx_as h1)
    · cases h
  | .tup ts, c, X, E, e, O, hx, h => by
    simp only [chkA] at h
    split at h
    · obtain ⟨n1, n2⟩ := chkAs_len (env := X.env) h
      exact s_tup O.calm (snAs ts O hx h) n1 n2
    · cases h
theorem snAs : ∀ (a : ITs) {c : Sc} {X : Cx} {E : XK} {e : List Expr}, Ok T c F ca k X → Passes (L2.CX X.prog X.w) X E → chkAs T c a e = true → PGs X e (gAs (gX X ca) E F a)
  | .nil, c, X, E, e, O, hx, h => by
    cases e with
    | nil => exact s_nil
    | cons _ _ => cases h
  | .cons a as, c, X, E, e, O, hx, h => by
    cases e with
    | nil => cases h
    | cons x xs =>
      obtain ⟨h1, h2, h3⟩ := tru3 h
      exact s_cons (snA a O hx h2) (snAs as O hx h3) (by rw [as_cons h1]; rfl)
end
end
end Iv

set_option maxRecDepth 10000
/-! Iv19: statements: what they stand for, soundness. -/
namespace Iv
open PySem PySem.Spec PyProof.Rows L2
/-- what a name = [..] on one line does with the new list -/
def swLc (c : Sc) (y : Str) (py p : Pos) (scope : Scope) : Bool := (match c.sc.kind with | .function => true | _ => false) && decide (c.sc.names.lookup y = some .local) && py.line == p.line && !(scope.names.any fun (n, k) => n == y && (k == .local || k == .cell))
def nameEx : Expr → Bool
  | .Name .. => true
  | _ => false
/-- a store of a tuple of things that aren't all plain names -/
def swNone (tg e : Expr) : Bool := match tg with
  | .Tuple ts _ _ => match e with
    | .Tuple .. => ts.any fun t => !nameEx t
    | _ => true
  | .List .. => false
  | _ => true
def lcScope : Expr → Option (Scope × Pos)
  | .ListComp _ _ s p => some (s, p)
  | _ => none
def nmT : IT → Bool
  | .nm _ => true
  | _ => false
def lcE : IE → Bool
  | .lc _ _ _ _ => true
  | _ => false
def dcScope : Expr → Option (Scope × Pos)
  | .DictComp _ _ _ s p => some (s, p)
  | _ => none
def dcE : IE → Bool
  | .dc _ _ _ _ => true
  | _ => false
def nameOf : Expr → Option (Str × Pos)
  | .Name y p => some (y, p)
  | _ => none
/-- how a comprehension's list is stored -/
def compOk (c : Sc) (t : IT) (a : IE) (tg e : Expr) : Bool := match lcScope e with
  | none => (match dcScope e with
    | none => noComp e
    | some (s, p) => match nameOf tg with
      | none => true
      | some (y, py) => !swLc c y py p s || (nmT t && dcE a))
  | some (s, p) => match nameOf tg with
    | none => true
    | some (y, py) => !swLc c y py p s || (nmT t && lcE a)
def chkAsg (T : Tb) (c : Sc) (t : IT) (a : IE) (tg e : Expr) : Bool := chkA T c t tg && chkE T c a e && swNone tg e && compOk c t a tg e
mutual
def chkS (T : Tb) (c : Sc) : IS → Stmt → Bool
  | .expr a, s => match s with
    | .Expr e _ => noComp e && chkE T c a e
    | _ => false
  | .asg t a, s => match s with
    | .Assign [tg] e _ => chkAsg T c t a tg e
    | _ => false
  | .par2 i j a b, s => match s with
    | .Assign [.Tuple [.Name x px, .Name y py] _ _] (.Tuple [e, f] _ _) _ => decide (T.N[i]? = some x) && decide (T.N[j]? = some y) && decide (i ≠ j) && decide (x ≠ y) && decide (c.sc.names.lookup x = some .local) && decide (c.sc.names.lookup y = some .local) &&
        chkE T c a e && chkE T c b f && nst e && nst f && (px.line == py.line) && !(([e, f] : List Expr).all (foldedForSure 8)) && !(([e, f] : List Expr).all (constantsAlone 8)) && (match c.sc.kind with | .function => true | _ => false)
    | _ => false
  | .aug op i a, s => match s with
    | .AugAssign (.Name x _) o e _ => decide (o = op) && (decide (op = .Add) || decide (op = .Sub)) && decide (T.N[i]? = some x) && locB c x && chkE T c a e
    | _ => false
  | .ret a, s => match s with
    | .Return e _ => match a, e with
      | .none, none => true
      | .some a, some e => chkE T c a e
      | _, _ => false
    | _ => false
  | .ife a p q, s => match s with
    | .If e b d _ => chkE T c a e && canT a && chkSs T c p b && chkSs T c q d
    | _ => false
  | .whl a p, s => match s with
    | .While e b [] _ => chkE T c a e && canT a && chkSs T c p b
    | _ => false
  | .for_ t it p, s => match s with
    | .For tg e b [] _ => chkI T c it t tg e && noSet e && chkA T c t tg && chkSs T c p b
    | _ => false
  | .forK t i p, s => match s with
    | .For tg (.Name x _) b [] _ => decide (T.N[i]? = some x) && visB c x && nmOk x && chkA T c t tg && chkSs T c p b
    | _ => false
  | .brk, s => match s with
    | .Break _ => true
    | _ => false
  | .cnt, s => match s with
    | .Continue _ => true
    | _ => false
  | .pas, s => match s with
    | .Pass _ => true
    | _ => false
  | .nev, _ => true
def chkSs (T : Tb) (c : Sc) : ISs → List Stmt → Bool
  | .nil, s => match s with
    | [] => true
    | _ :: _ => false
  | .cons a as, s => match s with
    | x :: xs => chkS T c a x && chkSs T c as xs
    | [] => false
end
section
variable {T : Tb} {F : Fns} {ca : Nat → Addr} {k : Nat} {X : Cx} {c : Sc} {E : XK}
theorem filt_short : ∀ {ts : List Expr} (f : Expr → Option Str), (∀ t, f t ≠ none → nameEx t = true) → (ts.any fun t => !nameEx t) = true → (ts.filterMap f).length < ts.length
  | [], f, hf, h => by cases h
  | t :: ts, f, hf, h => by
    rw [List.any_cons] at h
    have le : (ts.filterMap f).length ≤ ts.length := List.length_filterMap_le f ts
    by_cases ht : nameEx t = true
    · rw [ht] at h
      have i := filt_short f hf (show (ts.any fun t => !nameEx t) = true from h)
      rw [List.filterMap_cons]
      cases f t with
      | none => dsimp only; rw [List.length_cons]; omega
      | some _ => dsimp only; rw [List.length_cons, List.length_cons]; omega
    · have : f t = none := by
        cases e : f t with
        | none => rfl
        | some x => exact absurd (hf t (by rw [e]; exact fun z => nomatch z)) ht
      rw [List.filterMap_cons, this]
      dsimp only
      rw [List.length_cons]
      omega
theorem swNone_ok {tg e : Expr} {env : PySem.Env} (h : swNone tg e = true) : swappedStores [tg] e env = pure none := by
  unfold swNone at h
  split at h
  · rename_i ts a b
    split at h
    · rename_i vs a2 b2
      unfold swappedStores
      dsimp only
      split
      · rfl
      · split
        · rfl
        · split
          · rfl
          · rename_i hc
            refine absurd ?_ hc
            rw [Bool.or_eq_true]
            left
            refine (fun f hf => ?_ : ∀ f : Expr → Option Str, (∀ t, f t ≠ none → nameEx t = true) → ((ts.filterMap f).length != ts.length) = true) _ fun t ht => ?_
            · have := filt_short f hf h
              rw [bne_iff_ne]
              omega
            · cases t <;> first | rfl | exact absurd rfl ht
    · rename_i hne
      unfold swappedStores
      cases e <;> first | rfl | exact absurd rfl (hne _ _ _)
  · cases h
  · rename_i h1 h2
    unfold swappedStores
    cases tg <;> first | rfl | exact absurd rfl (h1 _ _ _) | exact absurd rfl (h2 _ _)
theorem swap_lc {elt : Expr} {gs : List Comprehension} {scope : Scope} {p py : Pos} {y : Str} {n : Nat} (h : X.env.scope = c.sc) (hk : c.sc.kind = .function) : swapsWith (.ListComp elt gs scope p) (some (.Name y py)) n X.env = pure (swLc c y py p scope) := by
  unfold swapsWith
  dsimp only
  have e1 : X.env.blockKind = .function := by
    show (if X.env.scope.kind.isAnnotationScope then _ else _) = _
    rw [h, hk]
    rfl
  have e2 : X.env.kindOf y = c.sc.names.lookup y := by
    show X.env.scope.names.lookup y = _
    rw [h]
  rw [e1, e2]
  show pure (_ && _ && _ && _) = pure _
  congr 1
  unfold swLc
  rw [hk]
  congr 2
  congr 1
  cases hl : c.sc.names.lookup y with
  | none => rfl
  | some q => cases q <;> rfl
theorem swap_dc {kx vx : Expr} {gs : List Comprehension} {scope : Scope} {p py : Pos} {y : Str} {n : Nat} (h : X.env.scope = c.sc) (hk : c.sc.kind = .function) : swapsWith (.DictComp kx vx gs scope p) (some (.Name y py)) n X.env = pure (swLc c y py p scope) := by
  unfold swapsWith
  dsimp only
  have e1 : X.env.blockKind = .function := by
    show (if X.env.scope.kind.isAnnotationScope then _ else _) = _
    rw [h, hk]
    rfl
  have e2 : X.env.kindOf y = c.sc.names.lookup y := by
    show X.env.scope.names.lookup y = _
    rw [h]
  rw [e1, e2]
  show pure (_ && _ && _ && _) = pure _
  congr 1
  unfold swLc
  rw [hk]
  congr 2
  congr 1
  cases hl : c.sc.names.lookup y with
  | none => rfl
  | some q => cases q <;> rfl
theorem dcScope_eq {e : Expr} {s : Scope} {p : Pos} (h : dcScope e = some (s, p)) : ∃ kx vx gs, e = .DictComp kx vx gs s p := by
  unfold dcScope at h
  split at h
  · cases h
    exact ⟨_, _, _, rfl⟩
  · cases h
structure OkS (T : Tb) (c : Sc) (F : Fns) (ca : Nat → Addr) (k : Nat) (X : Cx) (E : XK) : Prop extends Ok T c F ca k X where
  hx : Passes (L2.CX X.prog X.w) X E
  hp : PassesOwn (model X.prog X.w) X.A X.env X.xe
  fk : c.sc.kind = .function
theorem swaps_none {e : Expr} {tg : Expr} {n : Nat} {env : PySem.Env} (h : ∀ x p, tg ≠ .Name x p) : swapsWith e (some tg) n env = pure false := by
  unfold swapsWith
  split
  · cases tg <;> first | rfl | exact absurd rfl (h _ _)
  · rfl
theorem lcScope_eq {e : Expr} {s : Scope} {p : Pos} (h : lcScope e = some (s, p)) : ∃ elt gs, e = .ListComp elt gs s p := by
  unfold lcScope at h
  split at h
  · cases h
    exact ⟨_, _, rfl⟩
  · cases h
theorem nameOf_eq {e : Expr} {y : Str} {p : Pos} (h : nameOf e = some (y, p)) : e = .Name y p := by
  unfold nameOf at h
  split at h
  · cases h
    rfl
  · cases h
theorem asg_ok {t : IT} {a : IE} {tg e : Expr} {pos : Pos} (O : OkS T c F ca k X E) (h : chkAsg T c t a tg e = true) : PS X (.Assign [tg] e pos) (tS (gX X ca) E F (.asg t a)) := by
  unfold chkAsg at h
  obtain ⟨h, h4⟩ := tru2 h
  obtain ⟨h1, h2, h3⟩ := tru3 h
  have nt : nst tg = true := by cases t <;> simp only [chkA] at h1 <;> (split at h1) <;> first | rfl | cases h1
  have plain : swapsWithSole [tg] e pos.line X.env = pure false → PS X (.Assign [tg] e pos) (tS (gX X ca) E F (.asg t a)) := fun hs =>
    st_asg (snE a O.toOk O.hx h2).pe (snA t O.toOk O.hx h1) hs (swNone_ok h3) (by rw [as_cons nt]; rfl)
  unfold compOk at h4
  cases hl : lcScope e with
  | none =>
    rw [hl] at h4
    cases hd : dcScope e with
    | none =>
      rw [hd] at h4
      exact plain (noComp_swaps h4)
    | some sp =>
      obtain ⟨scope, p⟩ := sp
      obtain ⟨kx, vx, gs, rfl⟩ := dcScope_eq hd
      rw [hd] at h4
      cases hn : nameOf tg with
      | none =>
        exact plain (show swapsWith (.DictComp kx vx gs scope p) (some tg) pos.line X.env = pure false from swaps_none fun x p e => by rw [e] at hn; cases hn)
      | some yp =>
        obtain ⟨y, py⟩ := yp
        obtain rfl := nameOf_eq hn
        rw [hn] at h4
        cases hw : swLc c y py p scope with
        | false => exact plain (show swapsWith (.DictComp kx vx gs scope p) (some (.Name y py)) pos.line X.env = pure false from (swap_dc (n := pos.line) (X := X) O.sc O.fk).trans (by rw [hw]))
        | true =>
          have h4 : (!swLc c y py p scope || (nmT t && dcE a)) = true := h4
          rw [hw] at h4
          obtain ⟨h5, h6⟩ := tru2 (show (nmT t && dcE a) = true from h4)
          cases t with
          | nm i =>
            cases a with
            | dc b d t2 it =>
              simp only [chkE] at h2
              split at h2
              · rename_i kx vx tg iter scope pos' hh
                cases hh
                obtain ⟨ga, gb⟩ := tru2 h2
                obtain ⟨g1, g2, g3⟩ := tru3 ga
                obtain ⟨g4, g5, g6⟩ := tru3 gb
                have ok : BlkOk X.N X.env.scope scope (ownT T t2) := by
                  rw [O.N, O.sc]
                  exact blkOk_by g3
                have hy : X.N[i]? = some y := by
                  rw [O.N]
                  exact of_decide_eq_true (tru2 (show (decide (T.N[i]? = some y) && locB c y) = true from h1)).1
                have hyl : X.env.scope.names.lookup y = some .local := by
                  rw [O.sc]
                  unfold swLc at hw
                  simp only [Bool.and_eq_true, decide_eq_true_eq] at hw
                  exact hw.1.1.2
                exact st_setDc O.calm O.nd hy hyl (by rw [swap_dc O.sc O.fk, hw]) (snI it t2 O.toOk O.hx g1) ok own_ix (fun s H C cl fp => snT t2 (O.toOk.blk s H scope C cl fp) g4) (fun s H C cl fp => (snE b (O.toOk.blk s H scope C cl fp) passL g5).pe) (fun s H C cl fp => (snE d (O.toOk.blk s H scope C cl fp) passL g6).pe) (noSet_fold g2)
              · cases h2
            | _ => cases h6
          | _ => cases h5
  | some sp =>
    obtain ⟨scope, p⟩ := sp
    obtain ⟨elt, gs, rfl⟩ := lcScope_eq hl
    rw [hl] at h4
    cases hn : nameOf tg with
    | none =>
      exact plain (show swapsWith (.ListComp elt gs scope p) (some tg) pos.line X.env = pure false from swaps_none fun x p e => by rw [e] at hn; cases hn)
    | some yp =>
      obtain ⟨y, py⟩ := yp
      obtain rfl := nameOf_eq hn
      rw [hn] at h4
      cases hw : swLc c y py p scope with
      | false => exact plain (show swapsWith (.ListComp elt gs scope p) (some (.Name y py)) pos.line X.env = pure false from (swap_lc (n := pos.line) (X := X) O.sc O.fk).trans (by rw [hw]))
      | true =>
        have h4 : (!swLc c y py p scope || (nmT t && lcE a)) = true := h4
        rw [hw] at h4
        obtain ⟨h5, h6⟩ := tru2 (show (nmT t && lcE a) = true from h4)
        cases t with
        | nm i =>
          cases a with
          | lc b t2 it q =>
            simp only [chkE] at h2
            split at h2
            · rename_i elt tg iter ifs scope pos' hh
              cases hh
              obtain ⟨h2, g5, g6⟩ := tru3 h2
              obtain ⟨h2, g3, g4⟩ := tru3 h2
              obtain ⟨g1, g2⟩ := tru2 h2
              have ok : BlkOk X.N X.env.scope scope (ownT T t2) := by
                rw [O.N, O.sc]
                exact blkOk_by g3
              have hy : X.N[i]? = some y := by
                rw [O.N]
                exact of_decide_eq_true (tru2 (show (decide (T.N[i]? = some y) && locB c y) = true from h1)).1
              have hyl : X.env.scope.names.lookup y = some .local := by
                rw [O.sc]
                unfold swLc at hw
                simp only [Bool.and_eq_true, decide_eq_true_eq] at hw
                exact hw.1.1.2
              exact st_setLc O.calm O.nd hy hyl (by rw [swap_lc O.sc O.fk, hw]) (snI it t2 O.toOk O.hx g1) ok own_ix (fun s H C cl fp => snT t2 (O.toOk.blk s H scope C cl fp) g4) (fun s H C cl fp => snC q (O.toOk.blk s H scope C cl fp) passL g5) (fun s H C cl fp => (snE b (O.toOk.blk s H scope C cl fp) passL g6).pe) (noSet_fold g2)
            · cases h2
          | _ => cases h6
        | _ => cases h5
theorem par_ok {e f : Expr} {x y : Str} {px py pt pt2 : Pos} {kt k2 : Nat} (he : nst e = true) (hf : nst f = true) (hk : c.sc.kind = .function) (hs : X.env.scope = c.sc) (hx : c.sc.names.lookup x = some .local) (hy : c.sc.names.lookup y = some .local) (hl : (px.line == py.line) = true) (hxy : x ≠ y)
    (h1 : (([e, f] : List Expr).all (foldedForSure 8)) = false) (h2 : (([e, f] : List Expr).all (constantsAlone 8)) = false) : swappedStores [.Tuple [.Name x px, .Name y py] kt pt] (.Tuple [e, f] k2 pt2) X.env = pure (some [x, y]) := by
  have e1 : X.env.blockKind = .function := by
    show (if X.env.scope.kind.isAnnotationScope then _ else _) = _
    rw [hs, hk]
    rfl
  have kx : X.env.kindOf x = some .local := by show X.env.scope.names.lookup x = _; rw [hs, hx]
  have ky : X.env.kindOf y = some .local := by show X.env.scope.names.lookup y = _; rw [hs, hy]
  have hl' : py.line = px.line := by simpa using (beq_iff_eq.mp hl).symm
  have hyx : (y == x) = false := beq_eq_false_iff_ne.mpr fun z => hxy z.symm
  unfold swappedStores
  dsimp only
  rw [if_neg (by rw [e1]; simp)]
  split
  · rename_i hst
    rw [List.any_cons, List.any_cons, List.any_nil, Bool.or_false] at hst
    rcases Bool.or_eq_true_iff.mp hst with z | z
    · split at z
      · cases he
      · cases z
    · split at z
      · cases hf
      · cases z
  · have q1 : ((Expr.Name x px).pos.line) = px.line := rfl
    simp only [List.filterMap_cons, List.filterMap_nil, kx, ky, hl', q1, List.head?_cons, Option.map_some, Option.getD_some, beq_self_eq_true, Bool.and_self, if_true, h1, h2, Bool.false_eq_true, if_false]
    simp [List.eraseDups_cons, hyx, h1, h2]
mutual
theorem snS : ∀ (a : IS) {s : Stmt}, OkS T c F ca k X E → chkS T c a s = true → PS X s (tS (gX X ca) E F a)
  | .expr a, s, O, h => by
    simp only [chkS] at h
    split at h
    · obtain ⟨h1, h2⟩ := tru2 h
      exact st_expr (snE a O.toOk O.hx h2).pe (noComp_swaps h1)
    · cases h
  | .asg t a, s, O, h => by
    simp only [chkS] at h
    split at h
    · exact asg_ok O h
    · cases h
  | .par2 i j a b, s, O, h => by
    simp only [chkS] at h
    split at h
    · rename_i x px y py _ _ e f _ _ _
      simp only [Bool.and_eq_true, decide_eq_true_eq, Bool.not_eq_true'] at h
      obtain ⟨⟨⟨⟨⟨⟨⟨⟨⟨⟨⟨⟨⟨h1, h2⟩, h3⟩, h4⟩, h5⟩, h6⟩, h7⟩, h8⟩, h9⟩, h10⟩, h11⟩, h12⟩, h13⟩, h14⟩ := h
      have ha : PA X [e, f] (tEs (gX X ca) E F (.cons a (.cons b .nil))) := a_cons (snE a O.toOk O.hx h7).pe (a_cons (snE b O.toOk O.hx h8).pe a_nil h10) h9
      exact st_par2 O.calm O.nd (by rw [O.N]; exact h1) (by rw [O.N]; exact h2) h3 (by rw [O.sc]; exact h5) (by rw [O.sc]; exact h6) ha (par_ok h9 h10 O.fk O.sc h5 h6 h11 h4 h12 h13) rfl
    · cases h
  | .aug op i a, s, O, h => by
    simp only [chkS] at h
    split at h
    · obtain ⟨h, h4, h5⟩ := tru3 h
      obtain ⟨h1, h2, h3⟩ := tru3 h
      obtain rfl := of_decide_eq_true h1
      obtain ⟨l1, l2⟩ := O.loc h4
      exact st_aug (snE a O.toOk O.hx h5).pe ((Bool.or_eq_true_iff.mp h2).imp of_decide_eq_true of_decide_eq_true) O.nd (by rw [O.N]; exact of_decide_eq_true h3) l1 l2
    · cases h
  | .ret a, s, O, h => by
    simp only [chkS] at h
    split at h
    · split at h
      · exact st_retN
      · exact st_ret (snE _ O.toOk O.hx h).pe
      · cases h
    · cases h
  | .ife a p q, s, O, h => by
    simp only [chkS] at h
    split at h
    · obtain ⟨h, h3, h4⟩ := tru3 h
      obtain ⟨h1, h2⟩ := tru2 h
      exact st_if ((snE a O.toOk O.hx h1).pt h2) (snSs p O h3) (snSs q O h4)
    · cases h
  | .whl a p, s, O, h => by
    simp only [chkS] at h
    split at h
    · obtain ⟨h1, h2, h3⟩ := tru3 h
      exact st_whl O.hp ((snE a O.toOk O.hx h1).pt h2) (snSs p O h3)
    · cases h
  | .for_ t it p, s, O, h => by
    simp only [chkS] at h
    split at h
    · obtain ⟨h, h3, h4⟩ := tru3 h
      obtain ⟨h1, h2⟩ := tru2 h
      exact st_for O.hp O.calm (snI it t O.toOk O.hx h1) (snA t O.toOk O.hx h3) (snSs p O h4) (noSet_fold h2)
    · cases h
  | .forK t i p, s, O, h => by
    simp only [chkS] at h
    split at h
    · obtain ⟨h, h4, h5⟩ := tru3 h
      obtain ⟨h1, h2, h3⟩ := tru3 h
      exact st_forK O.hp O.calm (pe_var (by rw [O.N]; exact of_decide_eq_true h1) (O.vis h2) (nm1 h3) (nm2 h3)) (snA t O.toOk O.hx h4) (snSs p O h5)
    · cases h
  | .brk, s, O, h => by
    simp only [chkS] at h
    split at h
    · exact st_brk
    · cases h
  | .cnt, s, O, h => by
    simp only [chkS] at h
    split at h
    · exact st_cnt
    · cases h
  | .pas, s, O, h => by
    simp only [chkS] at h
    split at h
    · exact st_pass
    · cases h
  | .nev, s, O, h => by
    refine PS.imp ps_never fun D σ H q => ?_
    obtain ⟨μ, ρ, S, r, sl, p⟩ := q
    exact (show PostS _ E D .bad μ H from p)
theorem snSs : ∀ (a : ISs) {s : List Stmt}, OkS T c F ca k X E → chkSs T c a s = true → PSs X s (tSs (gX X ca) E F a)
  | .nil, s, O, h => by
    cases s with
    | nil => exact ss_nil
    | cons _ _ => cases h
  | .cons a as, s, O, h => by
    cases s with
    | nil => cases h
    | cons x xs =>
      obtain ⟨h1, h2⟩ := tru2 (show (chkS T c a x && chkSs T c as xs) = true from h)
      exact ss_cons (snS a O h1) (snSs as O h2)
end
end
end Iv

set_option maxRecDepth 10000
/-! Iv20: a program's defs, by levels. -/
namespace Iv
open PySem PySem.Spec PyProof.Rows L2
/-- the context of a def's body -/
abbrev bX (P : Program) (w : World) (K : PySem.W.Frag) (mg : Str → Option Value) (base : Heap) (N : List Str) (qual : Str) (scope : Scope) (f : Addr) (cd : Value) (A : Around) (outer : List PySem.Env) (s : Shared) (H : Hp) (E : XK) : Cx :=
  cxOf (L2.CX P w) P w K mg base N qual scope f cd A outer s H E
section
variable {P : Program} {w : World} {K : PySem.W.Frag} {mg : Str → Option Value} {base : Heap}
/-- a def by its body, where no repr runs around -/
theorem fnG_of {x qual : Str} {pm : Arguments} {body : List Stmt} {scope : Scope} {dvs : List V} {kws : List (Str × V)} {f : Addr} {fd : FuncData} {N ps : List Str} {k : Nat} {sp : Sp}
    (FD : FunD K x qual pm body scope dvs kws f fd) (FS : FnScope N ps scope) (hlen : ∀ xs Hs Qs Es, sp xs Hs Qs Es → xs.length = ps.length)
    (hrun : ∀ cv A ou st Hs xs Qs Es, Room k (A.deeper (envOfC qual scope st.heap.objs.size f cv)) → A.guards = some [] → sp xs Hs Qs Es →
      ∃ t, PSs (bX P w K mg base N qual scope f cv A ou st Hs Es) body t ∧ t { nx := fun _ Hz => Qs .non Hz, rt := Qs } (start N xs) Hs) :
    FnG P w K mg base (L2.CX P w) (k + 1) f fd ps sp := by
  obtain ⟨oc, od, dv, kv, dc, px, an, cv, ct, osl, hfd, lk, hcode, -, -⟩ := FD.ex
  cases hfd
  constructor
  · exact hlen
  intro A ou st Hs args us xs Qs Es room hgd e0 hbind rel hsp
  have inK : K.In st.heap := e0.mod.kin.keeps fun b o e => (e0.bs b o e).1
  have nolim := e0.mod.nolimit.keeps (h' := st.heap) fun b o e => (e0.bs b o e).1
  have kinds : ∀ p ∈ ps.zip us, scope.names.lookup p.1 = some .local ∨ (scope.names.lookup p.1 = some .cell ∧
      ((cellsFrom (st.heap.objs.size + 1) scope.names []).lookup p.1).isSome = true) := by
    rintro ⟨n, v⟩ hp
    refine (FS.par n (List.of_mem_zip hp).1).imp id fun q => ⟨q, ?_⟩
    exact PySem.W.cellsFrom_some _ _ _ (.inl q)
  refine codeAny_call_function room.depth (inK _ _ lk) rfl FS.co FS.gen rfl
    (PySem.W.codeRec_of inK hcode) (hbind _ _ _ _ ?_)
  refine wpAny_newFunctionEnv_cells FS.kind kinds fun nv hnv st1 ic => ?_
  cases hnv
  refine ⟨nolim.keeps ic.toInCall.keep, ?_⟩
  refine codeAny_func ?_
  obtain ⟨t, ht, hq⟩ := hrun cv A ou st Hs xs Qs Es (room.deeper _) hgd hsp
  have inv := inv_start (CX := L2.CX P w) (E := Es) FS room.hd e0 (hlen _ _ _ _ hsp) rel ic
  refine wpAny_mono (ht.run [] st1 (start N xs) Hs _ inv hq) (fun fl st2 hs => ?_) fun _ _ z => z
  cases fl with
  | next =>
    obtain ⟨_, Hz, J, z⟩ := hs
    exact ⟨V.non, Hz, J.os, J.bare, J.base, J.hok, rfl, z⟩
  | ret u =>
    obtain ⟨v, _, Hz, J, rv, z⟩ := hs
    exact ⟨v, Hz, J.os, J.bare, J.base, J.hok, rv, z⟩
  | brk =>
    obtain ⟨_, _, _, z⟩ := hs
    exact z.elim
  | cont =>
    obtain ⟨_, _, _, z⟩ := hs
    exact z.elim
theorem slots_start {μ : List Addr} {H : Hp} {N : List Str} {ds : List D} {vs : List V} {np ns : Nat} (hr : Reps K μ H ds vs) (hn : ns = N.length) (hp : ds.length = np) : Slots K μ H (start N vs) (ds.map some ++ List.replicate (ns - np) none) := by
  have hl := hr.length
  refine ⟨?_, fun i d h => ?_⟩
  · unfold L2.start
    simp only [List.length_append, List.length_map, List.length_replicate]
    omega
  · by_cases hi : i < ds.length
    · rw [List.getElem?_append_left (by simpa using hi), List.getElem?_map] at h
      obtain ⟨d', e1, e2⟩ := Option.map_eq_some_iff.mp h
      cases e2
      obtain ⟨v, h1, h2⟩ := hr.get e1
      refine ⟨v, ?_, h2⟩
      unfold L2.start
      rw [List.getElem?_append_left (by rw [List.length_map, ← hl]; exact hi), List.getElem?_map, h1]
      rfl
    · rw [List.getElem?_append_right (by simpa using hi), List.getElem?_replicate] at h
      split at h <;> cases h
/-- a def's end -/
theorem end_ok {g : G} {E : XK} {o : OutS} {μ : List Addr} {H : Hp} {S : Store} {Q : VK} (r : Rel g μ S H) (p : Post g E (gcO S (bodyO o)) μ H fun d _ μ' H' => ∀ v, Rep g.K μ' H' d v → Q v H') :
    PostS g E { nx := fun _ H' => Q .non H', rt := Q } o μ H := by
  have key : ∀ (d : D) (S' : Store) (μ' : List Addr) (H' : Hp) (v : V), Post g E (gc S d S') μ H (fun d _ μ' H' => ∀ v, Rep g.K μ' H' d v → Q v H') → Ext g.K μ μ' H H' → Rel g μ' S' H' → Rep g.K μ' H' d v → Q v H' := fun d S' μ' H' v p e r' hv => by
    obtain ⟨d2, S2, μ2, eg, e2, r2, hv2⟩ := gc_ok (Q := fun d2 S2 μ2 => Ext g.K μ μ2 H H' ∧ Rel g μ2 S2 H' ∧ Rep g.K μ2 H' d2 v) r r' e hv fun d2 S2 μ2 _ e2 r2 hv2 => ⟨e2, r2, hv2⟩
    rw [eg] at p
    exact p μ2 H' e2 r2 v hv2
  cases o with
  | nx ρ S' => exact fun μ' H' σ' e r' s' => key .non S' μ' H' .non p e r' rfl
  | rt d S' => exact fun μ' H' v e r' hv => key d S' μ' H' v p e r' hv
  | bk ρ S' => exact p.elim
  | ct ρ S' => exact p.elim
  | ex c fs S' => exact p
  | bad => exact p.elim
/-- one def of the text -/
structure Df where
  a : Addr
  fd : FuncData
  x : Str
  qual : Str
  pm : Arguments
  body : List Stmt
  scope : Scope
  ps : List Str
  N : List Str
/-- what a program's text says of its defs -/
structure Link (K : PySem.W.Frag) (mg : Str → Option Value) (ca : Nat → Addr) (Γ : Nat → Option FDef) (gl : Str → Option Gv) (df : Nat → Df) : Prop where
  fn : ∀ f d, Γ f = some d → FunD K (df f).x (df f).qual (df f).pm (df f).body (df f).scope [] [] (df f).a (df f).fd ∧ Binds K (df f).fd (df f).ps [] ∧ FnScope (df f).N (df f).ps (df f).scope ∧
    chkSs ⟨(df f).N, gl⟩ ⟨(df f).scope, none⟩ d.body (df f).body = true ∧ d.np = (df f).ps.length ∧ d.ns = (df f).N.length
  glF : ∀ x f ps, gl x = some (.fn f ps) → mg x = some (.ref (df f).a) ∧ ps = (df f).ps ∧ (Γ f).isSome = true
  glC : ∀ x d, gl x = some (.con d) → ∃ v u, mg x = some u ∧ RelV v u ∧ ∀ μ H, Rep K μ H d v
  bl : ∀ x ∈ bltNames, mg x = none
theorem fns_ok {ca : Nat → Addr} {Γ : Nat → Option FDef} {gl : Str → Option Gv} {df : Nat → Df} (L : Link K mg ca Γ gl df) : ∀ (k f : Nat) (d : FDef), Γ f = some d → FnG P w K mg base (L2.CX P w) k (df f).a (df f).fd (df f).ps (spOf ⟨P, w, K, ca⟩ (callN Γ k f))
  | 0, f, d, h => ⟨fun vs H Q E q => by
      obtain ⟨_, _, _, _, _, p⟩ := q
      exact p.elim, fun A ou s H args us vs Q E _ _ _ _ _ q => by
      obtain ⟨_, _, _, _, _, p⟩ := q
      exact p.elim⟩
  | k + 1, f, d, h => by
    obtain ⟨FD, hb, FS, hc, hp, hn⟩ := L.fn f d h
    have un : ∀ ds S, callN Γ (k + 1) f ds S = if ds.length = d.np then gcO S (bodyO (evSs (callN Γ k) d.body (ds.map some ++ List.replicate (d.ns - d.np) none) S)) else .bad := fun ds S => by
      show (match Γ f with | some d => if ds.length = d.np then gcO S (bodyO (evSs (callN Γ k) d.body (ds.map some ++ List.replicate (d.ns - d.np) none) S)) else .bad | none => .bad) = _
      rw [h]
    refine fnG_of FD FS (fun vs H Q E q => ?_) fun cv A ou s H vs Q E room hg q => ?_
    · obtain ⟨μ, S, ds, r, hr, p⟩ := q
      rw [un] at p
      by_cases c : ds.length = d.np
      · rw [← hr.length, c, hp]
      · rw [if_neg c] at p
        exact p.elim
    · obtain ⟨μ, S, ds, r, hr, p⟩ := q
      rw [un] at p
      by_cases c : ds.length = d.np
      · rw [if_pos c] at p
        have tk : Takes (bX P w K mg base (df f).N (df f).qual (df f).scope (df f).a cv A ou s H E) (fun cls d _ H => E cls d H) := takes_of rfl rfl rfl rfl
        have O : OkS ⟨(df f).N, gl⟩ ⟨(df f).scope, none⟩ (callN Γ k) ca k (bX P w K mg base (df f).N (df f).qual (df f).scope (df f).a cv A ou s H E) E := by
          refine ⟨⟨rfl, FS.nd, rfl, fun _ _ => rfl, rfl, room, hg, L.bl, fun x v hx => ?_⟩, passes_call tk fun _ _ _ _ z => z, passes_of rfl, FS.kind⟩
          cases v with
          | con d => exact L.glC x d hx
          | fn f' ps' =>
            obtain ⟨g1, g2, g3⟩ := L.glF x f' ps' hx
            obtain ⟨d', hd'⟩ := Option.isSome_iff_exists.mp g3
            obtain ⟨FD', hb', _⟩ := L.fn f' d' hd'
            subst g2
            exact ⟨⟨(df f').a, (df f').fd, g1, FD'.kp, hb', fns_ok L k f' d' hd'⟩⟩
        exact ⟨_, snSs d.body O hc, μ, _, S, r, slots_start hr hn c, end_ok r p⟩
      · rw [if_neg c] at p
        exact p.elim
end
end Iv

set_option maxRecDepth 10000
/-! Iv21: a law row's defs, the law's call. -/
namespace Iv
open PySem PySem.Spec PyProof.Rows L2
/-! ### arguments by place -/
theorem lookup_zip : ∀ {ns : List Str} {us : List Value} {n : Str}, us.length = ns.length → n ∈ ns → ((ns.zip us).lookup n).isSome = true
  | [], _, _, _, h => by cases h
  | _ :: _, [], _, h, _ => by cases h
  | m :: ns, u :: us, n, hl, h => by
    rw [List.zip_cons_cons, List.lookup_cons]
    cases e : n == m with
    | true => rfl
    | false =>
      rcases List.mem_cons.mp h with h | h
      · rw [h] at e
        simp at e
      · exact lookup_zip (by simpa using hl) h
theorem fm_congr {α β : Type} {f g : α → Option β} : ∀ {l : List α}, (∀ a ∈ l, f a = g a) → l.filterMap f = l.filterMap g
  | [], _ => rfl
  | a :: l, h => by
    rw [List.filterMap_cons, List.filterMap_cons, h a List.mem_cons_self, fm_congr fun b hb => h b (List.mem_cons_of_mem _ hb)]
theorem filt_zip : ∀ {ns : List Str} {us : List Value}, ns.Nodup → us.length = ns.length → ns.filterMap (fun n => ((ns.zip us).lookup n).map fun v => (n, v)) = ns.zip us
  | [], [], _, _ => rfl
  | [], _ :: _, _, h => by cases h
  | _ :: _, [], _, h => by cases h
  | m :: ns, u :: us, nd, hl => by
    obtain ⟨n1, n2⟩ := List.nodup_cons.mp nd
    have i := filt_zip (us := us) n2 (by simpa using hl)
    rw [List.zip_cons_cons, List.filterMap_cons, List.lookup_cons]
    simp only [beq_self_eq_true, Option.map_some]
    congr 1
    refine Eq.trans (fm_congr fun n hn => ?_) i
    rw [List.lookup_cons]
    have : (n == m) = false := beq_eq_false_iff_ne.mpr fun e => n1 (e ▸ hn)
    rw [this]
theorem bind_pos {x qual : Str} {as : List Arg} {body : List Stmt} {scope : Scope} {kV doc pm : Value} {an : Option Addr} {cdv ct : Value} {us : List Value} (nd : (as.map (·.arg)).Nodup) (hl : us.length = as.length) :
  bindArgs (PySem.W.fnOf x qual ⟨[], as, none, [], [], none, []⟩ body scope .none kV doc pm an cdv ct) ⟨us, []⟩ = pure ((as.map (·.arg)).zip us) := by
  have hl' : us.length = (as.map (·.arg)).length := by rw [List.length_map]; exact hl
  have hm : ((as.map (·.arg)).filter fun n => (((as.map (·.arg)).zip us).lookup n).isNone) = [] := by
    rw [List.filter_eq_nil_iff]
    intro n hn
    have := lookup_zip hl' hn
    cases h : ((as.map (·.arg)).zip us).lookup n with
    | none => rw [h] at this; cases this
    | some _ => simp
  have hz := filt_zip nd hl'
  unfold bindArgs PySem.W.fnOf
  simp only [List.map_nil, List.nil_append, List.forIn_nil, pure_bind]
  show (seqItems? .none >>= fun r => _) = _
  have e : seqItems? .none = pure none := rfl
  rw [e, pure_bind]
  simp only [Option.getD_none, List.drop_nil, List.length_nil, Nat.sub_zero, List.take_length, hm, List.append_nil, hl']
  rw [List.filterMap_map] at hz
  simp
  rw [hz]

/-! ### the defs of a row -/
/-- a def: its number, its name, its statement in the row, its parameters, its names, what it does -/
structure De where
  id : Nat
  nm : Str
  st : Stmt
  ps : List Str
  N : List Str
  ir : FDef
def De.dd (e : De) : He.DefD := ⟨(e.nm, none), e.nm, e.nm, defArgs e.st, defBody e.st, defScope e.st, [], []⟩
def ΓOf (l : List De) (f : Nat) : Option FDef := (l.find? fun e => decide (e.id = f)).map (·.ir)
def glOf (l : List De) (cs : List (Str × D)) (x : Str) : Option Gv := match lookA x cs with
  | some d => some (.con d)
  | none => (l.find? fun e => decide (e.nm = x)).map fun e => .fn e.id e.ps
def faC (p : Str × D) : He.Fa := match p.2 with
  | .int i => .int p.1 i
  | .str z => .str p.1 z
  | _ => .free p.1
def faOf (l : List De) (cs : List (Str × D)) : List He.Fa := l.map (fun e => .glo e.nm) ++ (cs.map faC ++ bltNames.map fun x => .free x)
def argsOk (a : Arguments) (ps : List Str) : Bool := match a with
  | ⟨[], as, none, [], [], none, []⟩ => decide (as.map (·.arg) = ps)
  | _ => false
def scOk (N ps : List Str) (sc : Scope) : Bool := (match sc.kind with | .function => true | _ => false) && !sc.isCoroutine && !sc.isGenerator && decide N.Nodup && decide (N.take ps.length = ps) &&
  (ps.all fun x => decide (sc.names.lookup x = some .local) || decide (sc.names.lookup x = some .cell)) && sc.names.all fun y => decide (y.2 ≠ .free)
def chkDe (gl : Str → Option Gv) (e : De) : Bool := argsOk (defArgs e.st) e.ps && scOk e.N e.ps (defScope e.st) && decide (e.ir.np = e.ps.length) && decide (e.ir.ns = e.N.length) && chkSs ⟨e.N, gl⟩ ⟨defScope e.st, none⟩ e.ir.body (defBody e.st)
def csOk (p : Str × D) : Bool := match p.2 with
  | .int _ | .str _ => true
  | _ => false
def chkAll (l : List De) (cs : List (Str × D)) : Bool := cs.all csOk && l.all (chkDe (glOf l cs))
theorem scOk_ok {N ps : List Str} {sc : Scope} (h : scOk N ps sc = true) : FnScope N ps sc := by
  unfold scOk at h
  simp only [Bool.and_eq_true, List.all_eq_true, decide_eq_true_eq, Bool.not_eq_true', Bool.or_eq_true] at h
  obtain ⟨⟨⟨⟨⟨⟨h1, h2⟩, h3⟩, h4⟩, h5⟩, h6⟩, h7⟩ := h
  refine ⟨?_, h2, h3, h4, h5, h6, h7⟩
  split at h1
  · assumption
  · cases h1
theorem argsOk_ok {a : Arguments} {ps : List Str} (h : argsOk a ps = true) : ∃ as, a = ⟨[], as, none, [], [], none, []⟩ ∧ as.map (·.arg) = ps := by
  unfold argsOk at h
  split at h
  · exact ⟨_, rfl, of_decide_eq_true h⟩
  · cases h
section
variable {K : PySem.W.Frag} {h : Heap} {mg : Str → Option Value} {l : List De} {cs : List (Str × D)}
theorem fact_mem {fa : List He.Fa} {fn : List He.DefD} (c : He.SaysD fa fn K) {f : He.Fa} (m : f ∈ fa) : f.ok K = true := by
  obtain ⟨i, hi, e⟩ := List.mem_iff_getElem.mp m
  exact c.fact i (by rw [← e]; exact List.getElem?_eq_getElem hi)
theorem def_mem {fa : List He.Fa} {fn : List He.DefD} (c : He.SaysD fa fn K) {d : He.DefD} (m : d ∈ fn) : ∃ fd, FunD K d.name d.qual d.params d.body d.scope (d.dvs K) (d.kws K) (He.fAd K d.at_) fd := by
  obtain ⟨i, hi, e⟩ := List.mem_iff_getElem.mp m
  exact c.def_ i (by rw [← e]; exact List.getElem?_eq_getElem hi)
def fdAt (K : PySem.W.Frag) (a : Addr) (e : De) : FuncData := match K.lookup a with
  | some ⟨_, _, .func fd, _⟩ => fd
  | _ => PySem.W.fnOf e.nm e.nm (defArgs e.st) (defBody e.st) (defScope e.st) .none .none .none .none none .none .none
def deDf (K : PySem.W.Frag) (e : De) : Df := ⟨He.ga K e.nm, fdAt K (He.ga K e.nm) e, e.nm, e.nm, defArgs e.st, defBody e.st, defScope e.st, e.ps, e.N⟩
def dfOf (K : PySem.W.Frag) (l : List De) (f : Nat) : Df := match l.find? fun e => decide (e.id = f) with
  | some e => deDf K e
  | none => deDf K ⟨0, "", .Pass default, [], [], ⟨0, 0, .nil⟩⟩
theorem lookA_mem {κ β : Type} [DecidableEq κ] {k : κ} {v : β} : ∀ {l : List (κ × β)}, lookA k l = some v → (k, v) ∈ l
  | [], h => by cases h
  | (a, b) :: r, h => by
    unfold lookA at h
    split at h
    · cases h
      rename_i e
      rw [e]
      exact List.mem_cons_self
    · exact List.mem_cons_of_mem _ (lookA_mem h)
/-- names stand for one def each -/
def uniq (l : List De) : Bool := l.all fun e => match l.find? fun e' => decide (e'.id = e.id) with
  | some e' => decide (e'.nm = e.nm) && decide (e'.ps = e.ps)
  | none => false
theorem link_of {ca : Nat → Addr} (X : K.In h) (G : h.Ns mainGlobals mg) (c : He.SaysD (faOf l cs) (l.map De.dd) K) (hu : uniq l = true) (hc : chkAll l cs = true) : Link K mg ca (ΓOf l) (glOf l cs) (dfOf K l) := by
  obtain ⟨hcs, hde⟩ := tru2 hc
  have hde := List.all_eq_true.mp hde
  have hcs := List.all_eq_true.mp hcs
  refine ⟨fun f d hf => ?_, fun x f ps hx => ?_, fun x d hx => ?_, fun x hx => ?_⟩
  · obtain ⟨e, he, rfl⟩ := Option.map_eq_some_iff.mp (show (l.find? fun e => decide (e.id = f)).map (·.ir) = some d from hf)
    have em := List.mem_of_find?_eq_some he
    have hd : dfOf K l f = deDf K e := by unfold dfOf; rw [he]
    rw [hd]
    have q := hde e em
    unfold chkDe at q
    simp only [Bool.and_eq_true, decide_eq_true_eq] at q
    obtain ⟨⟨⟨⟨q1, q2⟩, q3⟩, q4⟩, q5⟩ := q
    obtain ⟨fd, F⟩ := def_mem c (List.mem_map.mpr ⟨e, em, rfl⟩ : De.dd e ∈ l.map De.dd)
    have F : FunD K e.nm e.nm (defArgs e.st) (defBody e.st) (defScope e.st) [] [] (He.ga K e.nm) fd := F
    have efd : fdAt K (He.ga K e.nm) e = fd := by
      obtain ⟨oc, od, dV, kV, doc, pm, an, cdv, ct, osl, _, lk, _⟩ := F.ex
      unfold fdAt
      rw [lk]
    have S := scOk_ok q2
    refine ⟨?_, ?_, S, q5, q3, q4⟩
    · show FunD K e.nm e.nm (defArgs e.st) (defBody e.st) (defScope e.st) [] [] (He.ga K e.nm) (fdAt K (He.ga K e.nm) e)
      rw [efd]
      exact F
    · show Binds K (fdAt K (He.ga K e.nm) e) e.ps []
      rw [efd]
      obtain ⟨as, ea, eps⟩ := argsOk_ok q1
      rw [ea] at F
      refine F.bindsN fun kV doc pm an cdv ct us hl => ?_
      rw [← eps]
      refine bind_pos ?_ (by rw [hl, ← eps, List.length_map])
      rw [eps, ← S.pre]
      exact S.nd.sublist (List.take_sublist _ _)
  · unfold glOf at hx
    split at hx
    · cases hx
    · obtain ⟨e, he, e2⟩ := Option.map_eq_some_iff.mp hx
      cases e2
      have em := List.mem_of_find?_eq_some he
      have en : e.nm = x := by
        have z := List.find?_some he
        exact of_decide_eq_true z
      have u := List.all_eq_true.mp hu e em
      split at u
      · rename_i e' he'
        obtain ⟨u1, u2⟩ := tru2 u
        have hd : dfOf K l e.id = deDf K e' := by unfold dfOf; rw [he']
        rw [hd]
        refine ⟨?_, (of_decide_eq_true u2).symm, ?_⟩
        · have g := He.glo_ok X G (fact_mem c (f := .glo e.nm) (List.mem_append_left _ (List.mem_map.mpr ⟨e, em, rfl⟩)))
          rw [← en, g]
          show some (Value.ref (He.ga K e.nm)) = some (.ref (He.ga K e'.nm))
          rw [of_decide_eq_true u1]
        · show ((l.find? fun e2 => decide (e2.id = e.id)).map (·.ir)).isSome = true
          rw [he']
          rfl
      · cases u
  · unfold glOf at hx
    split at hx
    · rename_i d' hl
      cases hx
      have m := lookA_mem hl
      have f := fact_mem c (f := faC (x, d)) (List.mem_append_right _ (List.mem_append_left _ (List.mem_map.mpr ⟨_, m, rfl⟩)))
      have o := hcs _ m
      cases d with
      | int i =>
        obtain ⟨t, g⟩ := He.int_ok X G (show (He.Fa.int x i).ok K = true from f)
        exact ⟨.int i, _, g, ⟨t, rfl⟩, fun _ _ => rfl⟩
      | str z =>
        obtain ⟨t, g⟩ := He.str_ok X G (show (He.Fa.str x z).ok K = true from f)
        exact ⟨.str z, _, g, ⟨t, rfl⟩, fun _ _ => rfl⟩
      | _ => cases o
    · obtain ⟨e, he, e2⟩ := Option.map_eq_some_iff.mp hx
      cases e2
  · exact He.free_ok X G (fact_mem c (f := .free x) (List.mem_append_right _ (List.mem_append_right _ (List.mem_map.mpr ⟨x, hx, rfl⟩))))
end
/-! ### the law's call -/
section
variable {P : Program} {w : World} {K : PySem.W.Frag}
theorem main_call {mg mb : Str → Option Value} {k : Nat} {fa a : Addr} {fd : FuncData} {x : Str} {st : Shared} {us : List Value} {ns : List Int} {sp : Sp} (inK : K.In st.heap) (nG : st.heap.Ns mainGlobals mg) (nB : st.heap.Ns builtinsNs mb) (boot : ∀ y : Str, y ≠ "__name__" → mb y = bootBuiltins y)
    (nL : st.heap.NoLimit) (noG : st.gens = #[]) (obj : st.heap.get? a = some { cls := .type "list", data := .seq us.toArray }) (hnts : IntsAre us ns) (few : ns.length ≤ sizeLine) (room : Room k callerA)
    (fn : ∀ B : Heap, K.In B → B.Ns mainGlobals mg → FnG P w K mg B (L2.CX P w) k fa fd [x] sp) (bnd : Binds K fd [x] [])
    (say : ∀ H : Hp, RoL K H a (ns.map V.int) → sp [.ref a] H (fun v _ => v = .bl true) E0) :
    codeAny (model P w) callerA (.call (.ref fa) ⟨[.ref a], []⟩) (fun r s' => r = .ok (.ret (.bool true)) ∧
      OldK st.heap s'.heap ∧ s'.os = st.os ∧ AllBare s'.gens) st := by
  have rel := vals_ints hnts
  have nus := hnts.length
  -- H: at most the script is tracked
  suffices main : ∀ H : Hp, (∀ b, b ≠ a → H b = none) → (∀ u, H a = some u → u = .frz { cls := .type "list", data := .seq us.toArray } (.lst (ns.map V.int)) ∧ K.lookup a = none) → RoL K H a (ns.map V.int) →
      codeAny (model P w) callerA (.call (.ref fa) ⟨[.ref a], []⟩) (fun r s' => r = .ok (.ret (.bool true)) ∧
        OldK st.heap s'.heap ∧ s'.os = st.os ∧ AllBare s'.gens) st by
    cases lk : K.lookup a with
    | some o =>
      have q := inK a o lk
      rw [obj] at q
      cases q
      refine main (fun _ => none) (fun _ _ => rfl) (fun _ z => nomatch z) (.inr ⟨_, us.toArray, _, lk, rfl, rfl, rfl, ?_, ?_⟩)
      · rw [List.size_toArray, nus]
        exact few
      · simpa using rel
    | none =>
      refine main (upd (fun _ => none) a (.frz { cls := .type "list", data := .seq us.toArray } (.lst (ns.map V.int)))) (fun b hb => upd_ne hb) (fun u z => ?_) (.inl ⟨_, upd_same⟩)
      rw [upd_same] at z
      cases z
      exact ⟨rfl, lk⟩
  intro H off at_ hR
  have hok : HOk P w H st.heap := fun b u z => by
    by_cases e : b = a
    · subst e
      obtain ⟨rfl, _⟩ := at_ u z
      refine ⟨obj, ?_, us, _, rel, obj⟩
      rw [List.length_map]
      exact few
    · rw [off b e] at z
      cases z
  have none_of : ∀ {b : Addr} {o : Obj}, st.heap.get? b = some o → (b = a → H a = none) → (hidT st.heap H).get? b = some o := fun {b o} z na => hidT_get z (by
    by_cases e : b = a
    · rw [e]
      exact na e
    · exact off b e)
  have keepN : ∀ {b : Addr} {m : Str → Option Value}, st.heap.Ns b m → (hidT st.heap H).Ns b m := by
    rintro b m ⟨o, es, ep, z, hd, rest⟩
    refine ⟨o, es, ep, none_of z fun e => ?_, hd, rest⟩
    rw [e, obj] at z
    cases z
    exact absurd hd fun q => nomatch (show Data.seq us.toArray _ = Data.dict es ep from q)
  have inB : K.In (hidT st.heap H) := fun b o z => none_of (inK b o z) fun e => by
    cases q : H a with
    | none => rfl
    | some u =>
      rw [e, (at_ u q).2] at z
      cases z
  obtain ⟨mc, l1, l2⟩ := nL
  have md : Mod K mg (hidT st.heap H) := ⟨inB, keepN nG, ⟨mb, keepN nB, boot⟩, mc, keepN l1, l2⟩
  have e0 : Env0 P w K mg (hidT st.heap H) callerA [] st H := by
    refine ⟨rfl, md, fun b o z => of_hidT z, Nat.le_of_eq (hidT_size _ _), trivial, ?_, hok, .of_eq noG⟩
    intro b hb
    cases hb
  refine codeAny_mono ((fn _ inB (keepN nG)).run callerA [] st H ⟨[.ref a], []⟩ [.ref a] [.ref a] _ _ room rfl e0 (bnd st [.ref a] inK rfl) (.cons rfl .nil) (say H hR)) fun r s' z => ?_
  cases r with
  | error e =>
    obtain ⟨_, _, _, _, _, _, _, _, _, _, _, _, no⟩ := z
    exact no.elim
  | ok fl =>
    cases fl with
    | next => exact z.elim
    | brk => exact z.elim
    | cont => exact z.elim
    | ret u =>
      obtain ⟨v, H', os, bare, un, hok', rv, q⟩ := z
      cases (show v = .bl true from q)
      cases (show u = Value.bool true from rv)
      refine ⟨rfl, OldK.of_keep fun b o eb => ?_, os, bare⟩
      cases hb : H b with
      | none => exact un.keep b o eb hb (fun y => nomatch y) (fun y => nomatch y)
      | some u =>
        by_cases e : b = a
        · subst e
          obtain ⟨rfl, _⟩ := at_ u hb
          have k := hok' b _ (un.frzs b _ _ hb)
          rw [obj] at eb
          cases eb
          exact k.1
        · rw [off b e] at hb
          cases hb
end
/-- the law's walk, from what its interpreter answers -/
theorem walk_of {L : PySem.W.OpenLaw} {n k : Nat} {q : Program} {loose : List Str} {XP : (Str → Option Value) → Heap → Prop} {dr : DefRec} {l : List De} {cs : List (Str × D)} {e : De}
    (hm : L.most = some n) (hn : n ≤ sizeLine) (hdf : dr.params.defaults = []) (room : Room k callerA) (nm : dr.name = e.nm) (hu : uniq l = true) (hc : chkAll l cs = true) (he : e ∈ l) (hp : ∃ x, e.ps = [x]) (hf : (l.find? fun e' => decide (e'.id = e.id)) = some e)
    (sem : ∀ ns : List Int, ns.length ≤ n → (∀ i ∈ ns, Builtin.Int.intBits i ≤ 1048576) → ∃ S, callN (ΓOf l) k e.id [.rol (ns.map D.int)] [] = .ok (.bl true) S) :
    PySem.W.WalkO q loose XP (fun _ h => ∃ K : PySem.W.Frag, K.In h ∧ He.SaysD (faOf l cs) (l.map De.dd) K) L.row.toRowW dr [] (fun f vs => PySem.call f vs) := by
  refine Att.attach_callB hm hdf fun w s0 st mg mb fa o pm cd doc a us ns G Y ho hd hcd hmg obj hnts hlen bits noG => ?_
  obtain ⟨K, inK, c⟩ := Y
  have L0 := link_of (ca := fun _ => 0) inK G.T.g c hu hc
  have g := He.glo_ok inK G.T.g (fact_mem c (f := .glo e.nm) (List.mem_append_left _ (List.mem_map.mpr ⟨e, he, rfl⟩)))
  rw [nm, g] at hmg
  cases hmg
  obtain ⟨x, hx⟩ := hp
  have hG : ΓOf l e.id = some e.ir := by unfold ΓOf; rw [hf]; rfl
  have hd : dfOf K l e.id = deDf K e := by unfold dfOf; rw [hf]
  obtain ⟨_, hb, _⟩ := L0.fn e.id e.ir hG
  rw [hd] at hb
  have hb : Binds K (fdAt K (He.ga K e.nm) e) e.ps [] := hb
  rw [hx] at hb
  refine main_call (x := x) (fd := fdAt K (He.ga K e.nm) e) (sp := spOf ⟨L.prog, w, K, fun _ => 0⟩ (callN (ΓOf l) k e.id)) inK G.T.g G.T.b G.T.builtins G.T.nolimit noG obj hnts (Nat.le_trans hlen hn) room (fun B hB nB => ?_) hb fun H hR => ?_
  · have q := fns_ok (P := L.prog) (w := w) (base := B) L0 k e.id e.ir hG
    rw [hd] at q
    have q : FnG L.prog w K mg B (L2.CX L.prog w) k (He.ga K e.nm) (fdAt K (He.ga K e.nm) e) e.ps (spOf ⟨L.prog, w, K, fun _ => 0⟩ (callN (ΓOf l) k e.id)) := q
    rw [hx] at q
    exact q
  · obtain ⟨S, hS⟩ := sem ns hlen bits
    refine ⟨[], [], [.rol (ns.map D.int)], ⟨rfl, List.nodup_nil, fun i b c hb _ => by simp at hb⟩, Reps.one ⟨a, _, rfl, hR, ?_⟩, ?_⟩
    · clear hS obj hnts hlen bits hR
      induction ns with
      | nil => rfl
      | cons i ns ih => exact ⟨.int i, _, rfl, rfl, ih⟩
    · rw [hS]
      exact fun μ' H' _ _ v hv => hv
end Iv

namespace Iv
open PySem
/-! P1: how the interpreter is worked with. -/
theorem keepC_refl (n : Nat) : ∀ S : Store, keepC n S S = true
  | [] => rfl
  | c :: S => by unfold keepC; simp [keepC_refl n S]
theorem gc_drop {S T : Store} {d : D} (h : d.cl S.length = true) : gc S d (S ++ T) = .ok d S := by
  unfold gc
  rw [List.take_left, keepC_refl, if_pos rfl, if_pos h]
theorem gc_same {S : Store} {d : D} (h : d.cl S.length = true) : gc S d S = .ok d S := by
  have := gc_drop (T := []) h
  rwa [List.append_nil] at this
theorem gc_new {S T : Store} {j : Nat} {c : Cell} (h : T[j]? = some c) (hc : c.cl S.length = true) : gc S (.loc (S.length + j)) (S ++ T) = .ok (.loc S.length) (S ++ [c]) := by
  have e : (S ++ T)[S.length + j]? = some c := by
    rw [List.getElem?_append_right (by omega)]
    simpa using h
  have n : ¬ (D.loc (S.length + j)).cl S.length = true := fun z => by
    have := of_decide_eq_true (p := S.length + j < S.length) z
    omega
  unfold gc
  rw [List.take_left, keepC_refl, if_pos rfl, if_neg n]
  simp only [e, if_pos hc]
/-- one cell changed -/
theorem keepC_set {n : Nat} {c : Cell} (hc : c.cl n = true) : ∀ {S : Store} {i : Nat}, keepC n (S.set i c) S = true
  | [], _ => rfl
  | c0 :: S, 0 => by
    show ((decide (c = c0) || c.cl n) && keepC n S S) = true
    rw [hc, keepC_refl]
    simp
  | c0 :: S, i + 1 => by
    show ((decide (c0 = c0) || c0.cl n) && keepC n (S.set i c) S) = true
    rw [keepC_set hc]
    simp
theorem gc_set {S T : Store} {d : D} {i : Nat} {c : Cell} (hc : c.cl S.length = true) (h : d.cl S.length = true) : gc S d (S.set i c ++ T) = .ok d (S.set i c) := by
  unfold gc
  have e : ((S.set i c) ++ T).take S.length = S.set i c := by
    have := List.take_left (l₁ := S.set i c) (l₂ := T)
    rwa [List.length_set] at this
  rw [e, keepC_set hc, if_pos rfl, if_pos h]
theorem gc_setN {S T : Store} {i j : Nat} {c c' : Cell} (hc : c.cl S.length = true) (h : T[j]? = some c') (hc' : c'.cl S.length = true) : gc S (.loc (S.length + j)) (S.set i c ++ T) = .ok (.loc S.length) (S.set i c ++ [c']) := by
  have e : ((S.set i c) ++ T).take S.length = S.set i c := by
    have := List.take_left (l₁ := S.set i c) (l₂ := T)
    rwa [List.length_set] at this
  have e2 : (S.set i c ++ T)[S.length + j]? = some c' := by
    rw [List.getElem?_append_right (by rw [List.length_set]; omega), List.length_set]
    simpa using h
  have n : ¬ (D.loc (S.length + j)).cl S.length = true := fun z => by
    have := of_decide_eq_true (p := S.length + j < S.length) z
    omega
  unfold gc
  rw [e, keepC_set hc, if_pos rfl, if_neg n]
  simp only [e2, if_pos hc']
theorem callN_eq {Γ : Nat → Option FDef} {k f : Nat} {d : FDef} {ds : List D} {S : Store} (h : Γ f = some d) (hn : ds.length = d.np) :
    callN Γ (k + 1) f ds S = gcO S (bodyO (evSs (callN Γ k) d.body (ds.map some ++ List.replicate (d.ns - d.np) none) S)) := by
  show (match Γ f with | some d => if ds.length = d.np then gcO S (bodyO (evSs (callN Γ k) d.body (ds.map some ++ List.replicate (d.ns - d.np) none) S)) else .bad | none => .bad) = _
  rw [h]
  simp only [if_pos hn]
@[simp] theorem get_app {S T : Store} {j : Nat} : (S ++ T)[S.length + j]? = T[j]? := by
  rw [List.getElem?_append_right (by omega)]
  congr 1
  omega
@[simp] theorem get_app0 {S T : Store} : (S ++ T)[S.length]? = T[0]? := by
  rw [List.getElem?_append_right (by omega)]
  congr 1
  omega
theorem get_old {S T : Store} {i : Nat} {c : Cell} (h : S[i]? = some c) : (S ++ T)[i]? = some c := by
  rw [List.getElem?_append_left (List.getElem?_eq_some_iff.mp h).1]
  exact h
end Iv

set_option maxRecDepth 100000
namespace Iv
open PySem
/-! P2: the interpreter, step by step. -/
section
variable {F : Fns} {ρ : Env} {S S' : Store} {α β : Type}
@[simp] theorem bind_ok {a : α} {f : α → Store → Out β} : (Out.ok a S).bind f = f a S := id rfl
@[simp] theorem bindS_ok {a : α} {f : α → Store → OutS} : (Out.ok a S).bindS f = f a S := id rfl
@[simp] theorem bind_nx {f : Env → Store → OutS} : (OutS.nx ρ S).bind f = f ρ S := id rfl
@[simp] theorem bind_rt {d : D} {f : Env → Store → OutS} : (OutS.rt d S).bind f = .rt d S := id rfl
@[simp] theorem bind_bk {f : Env → Store → OutS} : (OutS.bk ρ S).bind f = .bk ρ S := id rfl
@[simp] theorem bind_ct {f : Env → Store → OutS} : (OutS.ct ρ S).bind f = .ct ρ S := id rfl
/-- a continuation that simp does not look into -/
class Kc (α β : Type) where
  k : α → Store → Out β
class KcS (α : Type) where
  k : α → Store → OutS
class KcT where
  k : Env → Store → OutS
def bindI (o : Out α) [c : Kc α β] : Out β := o.bind c.k
def bindSI (o : Out α) [c : KcS α] : OutS := o.bindS c.k
def bindTI (o : OutS) [c : KcT] : OutS := o.bind c.k
@[simp ↓] theorem bind_I {o : Out α} {f : α → Store → Out β} : o.bind f = @bindI α β o ⟨f⟩ := id rfl
@[simp ↓] theorem bindS_I {o : Out α} {f : α → Store → OutS} : o.bindS f = @bindSI α o ⟨f⟩ := id rfl
@[simp ↓] theorem bindT_I {o : OutS} {f : Env → Store → OutS} : o.bind f = @bindTI o ⟨f⟩ := id rfl
@[simp] theorem bindI_ok {a : α} {f : α → Store → Out β} : @bindI α β (Out.ok a S) ⟨f⟩ = f a S := id rfl
@[simp] theorem bindSI_ok {a : α} {f : α → Store → OutS} : @bindSI α (Out.ok a S) ⟨f⟩ = f a S := id rfl
@[simp] theorem bindTI_nx {f : Env → Store → OutS} : @bindTI (OutS.nx ρ S) ⟨f⟩ = f ρ S := id rfl
@[simp] theorem bindTI_rt {d : D} {f : Env → Store → OutS} : @bindTI (OutS.rt d S) ⟨f⟩ = .rt d S := id rfl
@[simp] theorem bindTI_bk {f : Env → Store → OutS} : @bindTI (OutS.bk ρ S) ⟨f⟩ = .bk ρ S := id rfl
@[simp] theorem bindTI_ct {f : Env → Store → OutS} : @bindTI (OutS.ct ρ S) ⟨f⟩ = .ct ρ S := id rfl
theorem ite_cg {b b' : Bool} {x y : OutS} (h : b = b') : (if b = true then x else y) = (if b' = true then x else y) := by rw [h]
/-- a value that is known -/
def vr (o : Option (Option D)) (S : Store) : Out D := match o with
  | some (some d) => .ok d S
  | _ => .bad
@[simp] theorem vr_ok {d : D} : vr (some (some d)) S = .ok d S := id rfl
@[simp] theorem ev_var {i : Nat} : evE F (.var i) ρ S = vr ρ[i]? S := id rfl
@[simp] theorem ev_con {c : D} : evE F (.con c) ρ S = .ok c S := id rfl
@[simp] theorem ev_glo {x : Str} {c : D} : evE F (.glo x c) ρ S = .ok c S := id rfl
@[simp] theorem ev_bin {op : Operator} {a b : IE} : evE F (.bin op a b) ρ S = (evE F a ρ S).bind fun x S1 => (evE F b ρ S1).bind fun y S2 => opD op x y S2 := id rfl
@[simp] theorem ev_neg {a : IE} : evE F (.neg a) ρ S = (evE F a ρ S).bind fun x S1 => match x with
    | .int i => .ok (.int (-i)) S1
    | _ => .bad := id rfl
@[simp] theorem ev_cmp {op : CmpOp} {a b : IE} : evE F (.cmp op a b) ρ S = (evE F a ρ S).bind fun x S1 => (evE F b ρ S1).bind fun y S2 => ok? ((cmpD op x y S2).map .bl) S2 := id rfl
@[simp] theorem ev_chn {op op' : CmpOp} {a b c : IE} : evE F (.chn op op' a b c) ρ S = (evE F a ρ S).bind fun x S1 => (evE F b ρ S1).bind fun y S2 => (ok? (cmpD op x y S2) S2).bind fun k _ =>
      if k then (evE F c ρ S2).bind fun z S3 => ok? ((cmpD op' y z S3).map .bl) S3 else .ok (.bl false) S2 := id rfl
@[simp] theorem ev_and {a b : IE} : evE F (.and a b) ρ S = (evE F a ρ S).bind fun x S1 => (blO x S1).bind fun k _ => if k then evE F b ρ S1 else .ok (.bl false) S1 := id rfl
@[simp] theorem ev_or {a b : IE} : evE F (.or a b) ρ S = (evE F a ρ S).bind fun x S1 => (blO x S1).bind fun k _ => if k then .ok (.bl true) S1 else evE F b ρ S1 := id rfl
@[simp] theorem ev_not {a : IE} : evE F (.not a) ρ S = (evE F a ρ S).bind fun x S1 => (blO x S1).bind fun k _ => .ok (.bl (!k)) S1 := id rfl
@[simp] theorem ev_one {a : IE} : evE F (.one a) ρ S = evE F a ρ S := id rfl
@[simp] theorem ev_ite {c a b : IE} : evE F (.ite c a b) ρ S = (evE F c ρ S).bind fun x S1 => (blO x S1).bind fun k _ => if k then evE F a ρ S1 else evE F b ρ S1 := id rfl
@[simp] theorem ev_tup {es : IEs} : evE F (.tup es) ρ S = (evEs F es ρ S).bind fun ds S1 => if ds.length ≤ sizeLine then .ok (.tup ds) S1 else .bad := id rfl
@[simp] theorem ev_lst {es : IEs} : evE F (.lst es) ρ S = (evEs F es ρ S).bind fun ds S1 => if ds.length ≤ sizeLine then newC (.lst ds) S1 else .bad := id rfl
@[simp] theorem ev_dsp {ks vs : IEs} : evE F (.dsp ks vs) ρ S = (evEs F ks ρ S).bind fun ks S1 => (evEs F vs ρ S1).bind fun vs S2 => match keys? ks with
    | some qs => if qs.length = vs.length then newC (.dct false (fromPairs [] (qs.zip vs))) S2 else .bad
    | none => .bad := id rfl
@[simp] theorem ev_call {f : Nat} {es : IEs} : evE F (.call f es) ρ S = (evEs F es ρ S).bind fun ds S1 => F f ds S1 := id rfl
@[simp] theorem ev_bf {b : Bf} {es : IEs} : evE F (.bf b es) ρ S = (evEs F es ρ S).bind fun ds S1 => bfD b ds S1 := id rfl
@[simp] theorem ev_bm {m : Bm} {o : IE} {es : IEs} : evE F (.bm m o es) ρ S = (evE F o ρ S).bind fun x S1 => if bmK m x S1 then (evEs F es ρ S1).bind fun ds S2 => bmD m x ds S2 else .bad := id rfl
@[simp] theorem ev_set0 : evE F .set0 ρ S = newC (.set []) S := id rfl
@[simp] theorem ev_ix {o i : IE} : evE F (.ix o i) ρ S = (evE F o ρ S).bind fun x S1 => (evE F i ρ S1).bind fun y S2 => ok? (ixD x y S2) S2 := id rfl
@[simp] theorem ev_slc {o : IE} {lo hi : IO} : evE F (.slc o lo hi) ρ S = (evE F o ρ S).bind fun x S1 => (evO F lo ρ S1).bind fun l S2 => (evO F hi ρ S2).bind fun h S3 => slD x l h S3 := id rfl
theorem ev_lc {e : IE} {t : IT} {it : II} {c : IO} : evE F (.lc e t it c) ρ S = (evI F it ρ S).bind fun p S1 => (loopC p.2 (turnC F e t c ρ) S1.length p.1 (S1 ++ [.lst []])).bind fun _ S5 => .ok (.loc S1.length) S5 := id rfl
@[simp] theorem evs_nil : evEs F .nil ρ S = .ok [] S := id rfl
@[simp] theorem evs_cons {e : IE} {es : IEs} : evEs F (.cons e es) ρ S = (evE F e ρ S).bind fun d S1 => (evEs F es ρ S1).bind fun ds S2 => .ok (d :: ds) S2 := id rfl
@[simp] theorem evo_none : evO F .none ρ S = .ok none S := id rfl
@[simp] theorem evo_some {e : IE} : evO F (.some e) ρ S = (evE F e ρ S).bind fun x S1 => match x with
    | .int i => .ok (some i) S1
    | _ => .bad := id rfl
@[simp] theorem evi_val {e : IE} : evI F (.val e) ρ S = (evE F e ρ S).bind fun x S1 => match walkOf S1 x with
    | some xs => .ok (xs, srcOf x xs) S1
    | none => .bad := id rfl
@[simp] theorem evi_range {es : IEs} : evI F (.range es) ρ S = (evEs F es ρ S).bind fun ds S1 => match rangeOf ds with
    | some xs => .ok (xs, .free) S1
    | none => .bad := id rfl
@[simp] theorem as_nm {i : Nat} {d : D} : asgT F (.nm i) d ρ S = if i < ρ.length then .ok (ρ.set i (some d)) S else .bad := id rfl
@[simp] theorem as_sub {o i : IE} {d : D} : asgT F (.sub o i) d ρ S = (evE F o ρ S).bind fun x S1 => (evE F i ρ S1).bind fun y S2 => (setD x y d S2).bind fun _ S3 => .ok ρ S3 := id rfl
@[simp] theorem as_tup {ts : ITs} {ds : List D} : asgT F (.tup ts) (.tup ds) ρ S = if ds.length = slotsTs.len ts then asgTs F ts ds ρ S else .bad := id rfl
@[simp] theorem ass_nil : asgTs F .nil [] ρ S = .ok ρ S := id rfl
@[simp] theorem ass_cons {t : IT} {ts : ITs} {d : D} {ds : List D} : asgTs F (.cons t ts) (d :: ds) ρ S = (asgT F t d ρ S).bind fun ρ' S' => asgTs F ts ds ρ' S' := id rfl
@[simp] theorem st_nil' : evSs F .nil ρ S = .nx ρ S := id rfl
@[simp] theorem st_cons' {s : IS} {ss : ISs} : evSs F (.cons s ss) ρ S = (evS F s ρ S).bind fun ρ' S' => evSs F ss ρ' S' := id rfl
@[simp] theorem st_expr' {e : IE} : evS F (.expr e) ρ S = (evE F e ρ S).bindS fun _ S1 => .nx ρ S1 := id rfl
@[simp] theorem st_asg' {t : IT} {e : IE} : evS F (.asg t e) ρ S = (evE F e ρ S).bindS fun d S1 => (asgT F t d ρ S1).bindS fun ρ' S' => .nx ρ' S' := id rfl
@[simp] theorem st_retn : evS F (.ret .none) ρ S = .rt .non S := id rfl
@[simp] theorem st_rets {e : IE} : evS F (.ret (.some e)) ρ S = (evE F e ρ S).bindS fun d S1 => .rt d S1 := id rfl
@[simp] theorem st_ife {c : IE} {a b : ISs} : evS F (.ife c a b) ρ S = ((evE F c ρ S).bind truO).bindS fun k S1 => if k then evSs F a ρ S1 else evSs F b ρ S1 := id rfl
theorem st_whl' {c : IE} {b : ISs} : evS F (.whl c b) ρ S = loopW (fun ρ S => (evE F c ρ S).bind truO) (evSs F b) fuelW ρ S := id rfl
@[simp] theorem st_for' {t : IT} {it : II} {b : ISs} : evS F (.for_ t it b) ρ S = (evI F it ρ S).bindS fun p S1 => loopF p.2 (fun x ρ S => (asgT F t x ρ S).bindS fun ρ' S' => evSs F b ρ' S') p.1 ρ S1 := id rfl
/-! ### steps on data -/
@[simp] theorem okq {a : α} : ok? (some a) S = .ok a S := id rfl
@[simp] theorem blo {k : Bool} : blO (.bl k) S = .ok k S := id rfl
@[simp] theorem truo {k : Bool} : truO (.bl k) S = .ok k S := id rfl
@[simp] theorem op_ii {op : Operator} {i j : Int} : opD op (.int i) (.int j) S = ok? ((opI op i j).map .int) S := id rfl
@[simp] theorem opi_add {i j : Int} : opI .Add i j = some (i + j) := id rfl
@[simp] theorem opi_sub {i j : Int} : opI .Sub i j = some (i - j) := id rfl
@[simp] theorem opi_mod {i j : Int} (h : 0 < j) : opI .Mod i j = some (i % j) := if_pos h
@[simp] theorem opi_fdiv {i j : Int} (h : 0 < j) (h2 : j.natAbs.log2 < 9000) : opI .FloorDiv i j = some (i / j) := if_pos ⟨h, h2⟩
@[simp] theorem opi_mul {i j : Int} (h : i.natAbs.log2 + j.natAbs.log2 < 1000000) : opI .Mult i j = some (i * j) := if_pos (decide_eq_true h)
@[simp] theorem cmp_lt {i j : Int} : cmpD .Lt (.int i) (.int j) S = some (decide (i < j)) := id rfl
@[simp] theorem cmp_le {i j : Int} : cmpD .LtE (.int i) (.int j) S = some (decide (i ≤ j)) := id rfl
@[simp] theorem cmp_gt {i j : Int} : cmpD .Gt (.int i) (.int j) S = some (decide (j < i)) := id rfl
@[simp] theorem cmp_ge {i j : Int} : cmpD .GtE (.int i) (.int j) S = some (decide (j ≤ i)) := id rfl
@[simp] theorem bf_len_rol {xs : List D} : bfD .len [.rol xs] S = .ok (.int xs.length) S := id rfl
@[simp] theorem bf_len_tup {xs : List D} : bfD .len [.tup xs] S = .ok (.int xs.length) S := id rfl
@[simp] theorem bf_len_loc {n : Nat} : bfD .len [.loc n] S = ok? ((lenD S (.loc n)).map fun n : Nat => D.int n) S := id rfl
@[simp] theorem bf_max {i j : Int} : bfD .max2 [.int i, .int j] S = .ok (.int (if j > i then j else i)) S := id rfl
@[simp] theorem bf_min {i j : Int} : bfD .min2 [.int i, .int j] S = .ok (.int (if j < i then j else i)) S := id rfl
@[simp] theorem newc {c : Cell} : newC c S = .ok (.loc S.length) (S ++ [c]) := id rfl
@[simp] theorem body_rt {d : D} : bodyO (.rt d S) = .ok d S := id rfl
@[simp] theorem body_nx : bodyO (.nx ρ S) = .ok .non S := id rfl
@[simp] theorem gco_ok {d : D} : gcO S (.ok d S') = gc S d S' := id rfl
end

@[simp] theorem line_eq : sizeLine = 16777216 := sizeLine_eq
@[simp] theorem cl_non {n : Nat} : D.non.cl n = true := id rfl
@[simp] theorem cl_bl {n : Nat} {b : Bool} : (D.bl b).cl n = true := id rfl
@[simp] theorem cl_int {n : Nat} {i : Int} : (D.int i).cl n = true := id rfl
@[simp] theorem cl_str {n : Nat} {x : Str} : (D.str x).cl n = true := id rfl
@[simp] theorem cl_tup {n : Nat} {xs : List D} : (D.tup xs).cl n = D.cls n xs := id rfl
@[simp] theorem cl_rol {n : Nat} {xs : List D} : (D.rol xs).cl n = D.cls n xs := id rfl
@[simp] theorem cl_loc {n m : Nat} : (D.loc m).cl n = decide (m < n) := id rfl
@[simp] theorem cls_nil {n : Nat} : D.cls n [] = true := id rfl
@[simp] theorem cls_cons {n : Nat} {x : D} {xs : List D} : D.cls n (x :: xs) = (x.cl n && D.cls n xs) := id rfl
@[simp] theorem cl_lst {n : Nat} {xs : List D} : (Cell.lst xs).cl n = D.cls n xs := id rfl
@[simp] theorem cl_dct {n : Nat} {lk : Bool} {kvs : List (Key × D)} : (Cell.dct lk kvs).cl n = D.cls n (kvs.map (·.2)) := id rfl
@[simp] theorem cl_set {n : Nat} {ks : List Key} : (Cell.set ks).cl n = true := id rfl
@[simp] theorem cl_ins {n c : Nat} {fs : List (Str × D)} : (Cell.ins c fs).cl n = D.cls n (fs.map (·.2)) := id rfl
@[simp] theorem gc_one {S : Store} {c : Cell} (h : c.cl S.length = true) : gc S (.loc S.length) (S ++ [c]) = .ok (.loc S.length) (S ++ [c]) := gc_new (j := 0) rfl h

/-! ### reading and writing by place -/
def ixC (c : Option Cell) (k : D) : Option D := match c, k with
  | some (.lst xs), .int i => ixAt xs i
  | some (.dct _ kvs), k => (D.key? k).bind fun q => lookA q kvs
  | some (.dtp kvs), .tup ks => (keys? ks).bind fun q => lookA q kvs
  | _, _ => none
@[simp] theorem ix_loc {n : Nat} {k : D} {S : Store} : ixD (.loc n) k S = ixC S[n]? k := id rfl
@[simp] theorem ixC_lst {xs : List D} {i : Int} : ixC (some (.lst xs)) (.int i) = ixAt xs i := id rfl
@[simp] theorem ixC_str {lk : Bool} {kvs : List (Key × D)} {x : Str} : ixC (some (.dct lk kvs)) (.str x) = lookA (.inr x) kvs := id rfl
@[simp] theorem ixC_int {lk : Bool} {kvs : List (Key × D)} {x : Int} : ixC (some (.dct lk kvs)) (.int x) = lookA (.inl x) kvs := id rfl
@[simp] theorem ix_tup {xs : List D} {i : Int} {S : Store} : ixD (.tup xs) (.int i) S = ixAt xs i := id rfl
@[simp] theorem ix_rol {xs : List D} {i : Int} {S : Store} : ixD (.rol xs) (.int i) S = ixAt xs i := id rfl
@[simp] theorem ixAt_nat {α : Type} {xs : List α} {i : Nat} : ixAt xs (i : Int) = xs[i]? := by
  unfold ixAt L2.atI L2.ixN
  rw [if_pos (by omega)]
  by_cases h : i < xs.length
  · rw [if_pos (by omega)]
    rfl
  · rw [if_neg (by omega), List.getElem?_eq_none (by omega)]
    rfl
@[simp] theorem ixAt_0 {α : Type} {xs : List α} : ixAt xs 0 = xs[0]? := ixAt_nat (i := 0)
@[simp] theorem ixAt_1 {α : Type} {xs : List α} : ixAt xs 1 = xs[1]? := ixAt_nat (i := 1)
@[simp] theorem ixAt_2 {α : Type} {xs : List α} : ixAt xs 2 = xs[2]? := ixAt_nat (i := 2)
@[simp] theorem ixN_nat {n i : Nat} : L2.ixN n (i : Int) = if i < n then some i else none := by
  unfold L2.ixN
  rw [if_pos (by omega)]
  by_cases h : i < n
  · rw [if_pos (by omega), if_pos h]
    rfl
  · rw [if_neg (by omega), if_neg h]
@[simp] theorem ixN_0 {n : Nat} : L2.ixN n 0 = if 0 < n then some 0 else none := ixN_nat (i := 0)
@[simp] theorem ixN_1 {n : Nat} : L2.ixN n 1 = if 1 < n then some 1 else none := ixN_nat (i := 1)
@[simp] theorem ixN_2 {n : Nat} : L2.ixN n 2 = if 2 < n then some 2 else none := ixN_nat (i := 2)
def setC (c : Option Cell) (n : Nat) (i d : D) (S : Store) : Out Unit := match c, i with
    | some (.lst xs), .int k => match L2.ixN xs.length k with
      | some j => .ok () (S.set n (.lst (xs.set j d)))
      | none => .bad
    | some (.dct false kvs), k => match D.key? k with
      | some q => if kvs.length < sizeLine then .ok () (S.set n (.dct false (putA q d kvs))) else .bad
      | none => .bad
    | _, _ => .bad
def setL (j : Option Nat) (n : Nat) (xs : List D) (d : D) (S : Store) : Out Unit := match j with
      | some j => .ok () (S.set n (.lst (xs.set j d)))
      | none => .bad
@[simp] theorem set_loc {n : Nat} {i d : D} {S : Store} : setD (.loc n) i d S = setC S[n]? n i d S := id rfl
@[simp] theorem setC_lst {n : Nat} {k : Int} {xs : List D} {d : D} {S : Store} : setC (some (.lst xs)) n (.int k) d S = setL (L2.ixN xs.length k) n xs d S := id rfl
@[simp] theorem setL_some {j n : Nat} {xs : List D} {d : D} {S : Store} : setL (some j) n xs d S = .ok () (S.set n (.lst (xs.set j d))) := id rfl
@[simp] theorem setC_str {n : Nat} {x : Str} {kvs : List (Key × D)} {d : D} {S : Store} : setC (some (.dct false kvs)) n (.str x) d S = if kvs.length < sizeLine then .ok () (S.set n (.dct false (putA (.inr x) d kvs))) else .bad := id rfl
@[simp] theorem gc_set0 {S : Store} {d : D} {i : Nat} {c : Cell} (hc : c.cl S.length = true) (h : d.cl S.length = true) : gc S d (S.set i c) = .ok d (S.set i c) := by
  have := gc_set (T := []) (i := i) hc h
  rwa [List.append_nil] at this
theorem opi_pow {i : Int} {j : Nat} (h : Builtin.Int.intBits i * j ≤ 2 ^ 27) : opI .Pow i j = some (i ^ j) := by
  show (if 0 ≤ (j : Int) ∧ (Builtin.Int.intBits i : Int) * (j : Int) ≤ 2 ^ 27 then some (i ^ (j : Int).toNat) else none) = _
  rw [if_pos ⟨by omega, by exact_mod_cast h⟩, Int.toNat_natCast]

mutual
theorem D.cl_mono {m n : Nat} (h : m ≤ n) : ∀ {d : D}, d.cl m = true → d.cl n = true
  | .non, _ | .bl _, _ | .int _, _ | .str _, _ => rfl
  | .loc k, z => decide_eq_true (Nat.lt_of_lt_of_le (of_decide_eq_true z) h)
  | .tup xs, z => D.cls_mono h (xs := xs) z
  | .rol xs, z => D.cls_mono h (xs := xs) z
theorem D.cls_mono {m n : Nat} (h : m ≤ n) : ∀ {xs : List D}, D.cls m xs = true → D.cls n xs = true
  | [], _ => rfl
  | x :: xs, z => by
    have q := Bool.and_eq_true_iff.mp z
    exact Bool.and_eq_true_iff.mpr ⟨D.cl_mono h q.1, D.cls_mono h q.2⟩
end
/-! ### loops -/
def oneC (f : D → Store → Out (Option D)) (n : Nat) (x : D) (S : Store) : Out Unit := match f x S with
  | .ok (some d) S' => (gc S d S').bind fun d' S'' => match S''[n]? with
    | some (.lst acc) => if acc.length < sizeLine then .ok () (S''.set n (.lst (acc ++ [d']))) else .bad
    | _ => .bad
  | .ok none S' => (gc S .non S').bind fun _ S'' => .ok () S''
  | _ => .bad
theorem loopC_eq {src : Src} {f : D → Store → Out (Option D)} {n : Nat} {x : D} {xs : List D} {S : Store} : loopC src f n (x :: xs) S = if src.ok S = true then
      match f x S with
      | .ok (some d) S' => (gc S d S').bind fun d' S'' => match S''[n]? with
        | some (.lst acc) => if acc.length < sizeLine then loopC src f n xs (S''.set n (.lst (acc ++ [d']))) else .bad
        | _ => .bad
      | .ok none S' => (gc S .non S').bind fun _ S'' => loopC src f n xs S''
      | _ => .bad
    else .bad := id rfl
theorem loopC_cons {src : Src} {f : D → Store → Out (Option D)} {n : Nat} {x : D} {xs : List D} {S : Store} (h : src.ok S = true) : loopC src f n (x :: xs) S = (oneC f n x S).bind fun _ S' => loopC src f n xs S' := by
  rw [loopC_eq, if_pos h]
  unfold oneC
  cases f x S with
  | ok o S' =>
    cases o with
    | some d =>
      dsimp only
      cases gc S d S' with
      | ok d' S'' =>
        simp only [bind_ok]
        cases S''[n]? with
        | none => rfl
        | some c =>
          cases c with
          | lst acc =>
            dsimp only
            by_cases z : acc.length < sizeLine
            · rw [if_pos z, if_pos z]
              rfl
            · rw [if_neg z, if_neg z]
              rfl
          | _ => rfl
      | ex _ _ _ => rfl
      | bad => rfl
    | none =>
      dsimp only
      cases gc S .non S' with
      | ok d' S'' => rfl
      | ex _ _ _ => rfl
      | bad => rfl
  | ex _ _ _ => rfl
  | bad => rfl
theorem loopC_all {src : Src} {f : D → Store → Out (Option D)} {n : Nat} {xs : List D} {S : Store} (I : Nat → Store → Prop) (h0 : I 0 S) (step : ∀ i x S, I i S → xs[i]? = some x → src.ok S = true ∧ ∃ S', oneC f n x S = .ok () S' ∧ I (i + 1) S') (last : ∀ S, I xs.length S → src.ok S = true) :
    ∃ S', loopC src f n xs S = .ok () S' ∧ I xs.length S' := by
  have key : ∀ (ys : List D) (i : Nat) (S : Store), xs.drop i = ys → i + ys.length = xs.length → I i S → ∃ S', loopC src f n ys S = .ok () S' ∧ I xs.length S' := by
    intro ys
    induction ys with
    | nil =>
      intro i S hd hl hI
      have e : i = xs.length := by simpa using hl
      subst e
      refine ⟨S, ?_, hI⟩
      show (if src.ok S = true then Out.ok () S else .bad) = _
      rw [if_pos (last S hI)]
    | cons y ys ih =>
      intro i S hd hl hI
      have hy : xs[i]? = some y := by
        have : (xs.drop i)[0]? = some y := by rw [hd]; rfl
        simpa using this
      obtain ⟨h1, S', h2, h3⟩ := step i y S hI hy
      rw [loopC_cons h1, h2, bind_ok]
      refine ih (i + 1) S' ?_ (by simp only [List.length_cons] at hl; omega) h3
      rw [← List.drop_drop, hd]
      rfl
  exact key xs 0 S (by simp) (by simp) h0
theorem loopF_all {src : Src} {f : D → Env → Store → OutS} {xs : List D} {ρ : Env} {S : Store} (I : Nat → Env → Store → Prop) (h0 : I 0 ρ S) (step : ∀ i x ρ S, I i ρ S → xs[i]? = some x → src.ok S = true ∧ ∃ ρ' S', (f x ρ S = .nx ρ' S' ∨ f x ρ S = .ct ρ' S') ∧ I (i + 1) ρ' S') (last : ∀ ρ S, I xs.length ρ S → src.ok S = true) :
    ∃ ρ' S', loopF src f xs ρ S = .nx ρ' S' ∧ I xs.length ρ' S' := by
  have key : ∀ (ys : List D) (i : Nat) (ρ : Env) (S : Store), xs.drop i = ys → i + ys.length = xs.length → I i ρ S → ∃ ρ' S', loopF src f ys ρ S = .nx ρ' S' ∧ I xs.length ρ' S' := by
    intro ys
    induction ys with
    | nil =>
      intro i ρ S hd hl hI
      have e : i = xs.length := by simpa using hl
      subst e
      refine ⟨ρ, S, ?_, hI⟩
      show (if src.ok S = true then OutS.nx ρ S else .bad) = _
      rw [if_pos (last ρ S hI)]
    | cons y ys ih =>
      intro i ρ S hd hl hI
      have hy : xs[i]? = some y := by
        have : (xs.drop i)[0]? = some y := by rw [hd]; rfl
        simpa using this
      obtain ⟨h1, ρ', S', h2, h3⟩ := step i y ρ S hI hy
      have hn := ih (i + 1) ρ' S' (by rw [← List.drop_drop, hd]; rfl) (by simp only [List.length_cons] at hl; omega) h3
      obtain ⟨ρ2, S2, e1, e2⟩ := hn
      refine ⟨ρ2, S2, ?_, e2⟩
      unfold loopF
      rw [if_pos h1]
      rcases h2 with h2 | h2 <;> (rw [h2]; exact e1)
  exact key xs 0 ρ S (by simp) (by simp) h0
theorem loopW_all {c : Env → Store → Out Bool} {f : Env → Store → OutS} (I : Env → Store → Prop) (R : Env → Store → Prop) (μ : Env → Store → Nat) (step : ∀ ρ S, I ρ S → (∃ S1, c ρ S = .ok false S1 ∧ R ρ S1) ∨ ∃ S1 ρ' S', c ρ S = .ok true S1 ∧ (f ρ S1 = .nx ρ' S' ∨ f ρ S1 = .ct ρ' S') ∧ I ρ' S' ∧ μ ρ' S' < μ ρ S) :
    ∀ {n : Nat} {ρ : Env} {S : Store}, I ρ S → μ ρ S < n → ∃ ρ' S', loopW c f n ρ S = .nx ρ' S' ∧ R ρ' S' := by
  intro n
  induction n with
  | zero => intro ρ S _ h; omega
  | succ n ih =>
    intro ρ S hI hm
    rcases step ρ S hI with ⟨S1, h1, h2⟩ | ⟨S1, ρ', S', h1, h2, h3, h4⟩
    · refine ⟨ρ, S1, ?_, h2⟩
      unfold loopW
      rw [h1]
      rfl
    · obtain ⟨ρ2, S2, e1, e2⟩ := ih h3 (by omega)
      refine ⟨ρ2, S2, ?_, e2⟩
      unfold loopW
      rw [h1, bindS_ok, if_pos rfl]
      rcases h2 with h2 | h2 <;> (rw [h2]; exact e1)
/-- a comprehension that leaves the store as it is -/
theorem loopC_pure {src : Src} {f : D → Store → Out (Option D)} {xs : List D} {S : Store} (g : D → Option D) (hz : xs.length < sizeLine) (hs : ∀ acc, src.ok (S ++ [.lst acc]) = true) (hf : ∀ x ∈ xs, ∀ acc, ∃ T, f x (S ++ [.lst acc]) = .ok (g x) (S ++ [.lst acc] ++ T)) (hc : ∀ x ∈ xs, ∀ d, g x = some d → d.cl S.length = true) :
    loopC src f S.length xs (S ++ [.lst []]) = .ok () (S ++ [.lst (xs.filterMap g)]) := by
  have mono : ∀ (d : D), d.cl S.length = true → d.cl (S.length + 1) = true := by
    intro d
    exact D.cl_mono (Nat.le_succ _)
  have key : ∀ (ys : List D) (acc : List D), acc.length + ys.length < sizeLine → (∀ x ∈ ys, x ∈ xs) → loopC src f S.length ys (S ++ [.lst acc]) = .ok () (S ++ [.lst (acc ++ ys.filterMap g)]) := by
    intro ys
    induction ys with
    | nil =>
      intro acc _ _
      show (if src.ok (S ++ [.lst acc]) = true then Out.ok () (S ++ [.lst acc]) else .bad) = _
      rw [if_pos (hs acc)]
      simp
    | cons y ys ih =>
      intro acc hl hm
      have hy := hm y List.mem_cons_self
      obtain ⟨T, hT⟩ := hf y hy acc
      rw [loopC_cons (hs acc)]
      simp only [List.length_cons] at hl
      cases hg : g y with
      | none =>
        have : oneC f S.length y (S ++ [.lst acc]) = .ok () (S ++ [.lst acc]) := by
          unfold oneC
          rw [hT, hg]
          show (gc (S ++ [.lst acc]) .non (S ++ [.lst acc] ++ T)).bind _ = _
          rw [gc_drop rfl]
          rfl
        rw [this, bind_ok, ih acc (by omega) fun x hx => hm x (List.mem_cons_of_mem _ hx), List.filterMap_cons, hg]
      | some d =>
        have : oneC f S.length y (S ++ [.lst acc]) = .ok () (S ++ [.lst (acc ++ [d])]) := by
          unfold oneC
          rw [hT, hg]
          show (gc (S ++ [.lst acc]) d (S ++ [.lst acc] ++ T)).bind _ = _
          rw [gc_drop (by rw [List.length_append]; exact mono d (hc y hy d hg)), bind_ok]
          simp only [get_app0, List.getElem?_cons_zero]
          rw [if_pos (by omega)]
          simp
        rw [this, bind_ok, ih (acc ++ [d]) (by rw [List.length_append, List.length_singleton]; omega) fun x hx => hm x (List.mem_cons_of_mem _ hx), List.filterMap_cons, hg]
        simp
  have := key xs [] (by simpa using hz) fun x hx => hx
  simpa using this

/-! ### what a step keeps -/
theorem keepC_of {n : Nat} : ∀ {T S : Store}, T.length ≤ S.length → (∀ (i : Nat) (c : Cell), T[i]? = some c → S[i]? = some c ∨ c.cl n = true) → keepC n T S = true
  | [], _, _, _ => rfl
  | _ :: _, [], h, _ => by simp at h
  | c :: T, c0 :: S, h, k => by
    show ((decide (c = c0) || c.cl n) && keepC n T S) = true
    rw [keepC_of (by simpa using h) fun i c hc => k (i + 1) c (by simpa using hc)]
    rcases k 0 c rfl with z | z
    · have : c0 = c := by simpa using z
      simp [this]
    · simp [z]
theorem gc_keep {S S' T : Store} {d : D} (hl : S'.length = S.length) (hk : ∀ (i : Nat) (c : Cell), S'[i]? = some c → S[i]? = some c ∨ c.cl S.length = true) (hd : d.cl S.length = true) : gc S d (S' ++ T) = .ok d S' := by
  unfold gc
  have e : (S' ++ T).take S.length = S' := by rw [← hl, List.take_left]
  rw [e, keepC_of (Nat.le_of_eq hl) hk, if_pos rfl, if_pos hd]
theorem gc_keepN {S S' T : Store} {j : Nat} {c' : Cell} (hl : S'.length = S.length) (hk : ∀ (i : Nat) (c : Cell), S'[i]? = some c → S[i]? = some c ∨ c.cl S.length = true) (h : T[j]? = some c') (hc' : c'.cl S.length = true) : gc S (.loc (S.length + j)) (S' ++ T) = .ok (.loc S.length) (S' ++ [c']) := by
  have e : (S' ++ T).take S.length = S' := by rw [← hl, List.take_left]
  have e2 : (S' ++ T)[S.length + j]? = some c' := by
    rw [← hl, get_app]
    exact h
  have n : ¬ (D.loc (S.length + j)).cl S.length = true := fun z => by
    have := of_decide_eq_true (p := S.length + j < S.length) z
    omega
  unfold gc
  rw [e, keepC_of (Nat.le_of_eq hl) hk, if_pos rfl, if_neg n]
  simp only [e2, if_pos hc']
theorem set_self {S : Store} {s : Nat} {c : Cell} (h : S[s]? = some c) : S.set s c = S := by
  refine List.ext_getElem? fun i => ?_
  by_cases e : s = i
  · subst e
    rw [List.getElem?_set_self (List.getElem?_eq_some_iff.mp h).1, h]
  · rw [List.getElem?_set_ne e]
theorem set_app {S T : Store} {s : Nat} {c : Cell} (h : s < S.length) : (S ++ T).set s c = S.set s c ++ T := List.set_append_left s c h
theorem set_new {S T : Store} {j : Nat} {c : Cell} : (S ++ T).set (S.length + j) c = S ++ T.set j c := by
  rw [List.set_append_right _ _ (by omega)]
  congr 2
  omega
theorem set_new0 {S T : Store} {c : Cell} : (S ++ T).set S.length c = S ++ T.set 0 c := set_new (j := 0)
theorem lenD_loc {S : Store} {n : Nat} {xs : List D} (h : S[n]? = some (.lst xs)) : lenD S (.loc n) = some xs.length := by
  simp only [lenD, h]
theorem pop_ok {S : Store} {n i : Nat} {xs : List D} {d : D} (h : S[n]? = some (.lst xs)) (hd : xs[i]? = some d) (hi : i < 2 ^ 62) : bmD .popAt (.loc n) [.int (i : Nat)] S = .ok d (S.set n (.lst (xs.eraseIdx i))) := by
  have hl := (List.getElem?_eq_some_iff.mp hd).1
  simp only [bmD, lstDo, h, ixN_nat, hl, if_true, hd]
  rw [if_pos (by omega)]
theorem cls_mem {n : Nat} : ∀ {xs : List D}, D.cls n xs = true ↔ ∀ x ∈ xs, x.cl n = true
  | [] => by simp [D.cls]
  | x :: xs => by simp [D.cls, cls_mem (xs := xs)]

/-! ### things by place -/
section
variable {S : Store} {n : Nat} {d : D} {xs : List D} {ks : List Key} {kvs : List (Key × D)} {lk : Bool} {x : Str} {i : Int}
theorem nin_set (h : S[n]? = some (.set ks)) : cmpD .NotIn (.str x) (.loc n) S = some (!hasK (.inr x) ks) := by simp [cmpD, inD, h, D.key?]
theorem in_set (h : S[n]? = some (.set ks)) : cmpD .In (.str x) (.loc n) S = some (hasK (.inr x) ks) := by simp [cmpD, inD, h, D.key?]
theorem nin_dct (h : S[n]? = some (.dct lk kvs)) : cmpD .NotIn (.str x) (.loc n) S = some (!(lookA (.inr x) kvs).isSome) := by simp [cmpD, inD, h, D.key?]
theorem in_dct (h : S[n]? = some (.dct lk kvs)) : cmpD .In (.str x) (.loc n) S = some (lookA (.inr x) kvs).isSome := by simp [cmpD, inD, h, D.key?]
theorem addK_ok (h : S[n]? = some (.set ks)) : bmK .add (.loc n) S = true := by simp [bmK, h]
theorem addD_ok (h : S[n]? = some (.set ks)) (hz : ks.length + 1 < 1000) : bmD .add (.loc n) [.str x] S = .ok .non (S.set n (.set (addK (.inr x) ks))) := by simp [bmD, h, D.key?, hz]
theorem appK_ok (h : S[n]? = some (.lst xs)) : bmK .append (.loc n) S = true := by simp [bmK, h]
theorem appD_ok (h : S[n]? = some (.lst xs)) (hz : xs.length < sizeLine) : bmD .append (.loc n) [d] S = .ok .non (S.set n (.lst (xs ++ [d]))) := by
  simp only [bmD, lstDo, h]
  rw [if_pos hz]
theorem tup_loc (h : S[n]? = some (.lst xs)) : bfD .tuple [.loc n] S = .ok (.tup xs) S := by simp [bfD, seqOf, lstAt, h]
theorem list_loc (h : S[n]? = some (.lst xs)) : bfD .list [.loc n] S = .ok (.loc S.length) (S ++ [.lst xs]) := by simp [bfD, seqOf, lstAt, h]
theorem list_tup : bfD .list [.tup xs] S = .ok (.loc S.length) (S ++ [.lst xs]) := by simp [bfD, seqOf]
theorem tup_tup : bfD .tuple [.tup xs] S = .ok (.tup xs) S := by simp [bfD, seqOf]
theorem len_loc (h : S[n]? = some (.lst xs)) : bfD .len [.loc n] S = .ok (.int xs.length) S := by simp [lenD_loc h]
end
/-- strings, as data -/
def sd (l : List Str) : List D := l.map D.str
def hasS (x : Str) (l : List Str) : Bool := l.any fun y => decide (y = x)
theorem hasK_str {x : Str} : ∀ {l : List Str}, hasK (.inr x) (l.map Sum.inr) = hasS x l
  | [] => rfl
  | y :: l => by
    have i := hasK_str (x := x) (l := l)
    unfold hasK hasS at *
    simp only [List.map_cons, List.any_cons, i]
    congr 1
    by_cases e : y = x
    · simp [e]
    · simp [e]
theorem hasS_iff {x : Str} {l : List Str} : hasS x l = true ↔ x ∈ l := by
  unfold hasS
  rw [List.any_eq_true]
  constructor
  · rintro ⟨y, hy, e⟩
    exact of_decide_eq_true e ▸ hy
  · exact fun h => ⟨x, h, decide_eq_true rfl⟩
end Iv

set_option maxRecDepth 100000
namespace Iv
open PySem
abbrev i_as_pairs : Nat := 45
def f_as_pairs : FDef := ⟨1, 2, .cons (.ret (.some (.bf .tuple (.cons (.lc (.tup (.cons (.var 1) (.cons (.ix (.var 0) (.var 1)) (.nil)))) (.nm 1) (.val (.bf .sorted (.cons (.var 0) (.nil)))) (.none)) (.nil))))) (.nil)⟩
abbrev i_cycles_of : Nat := 0
def f_cycles_of : FDef := ⟨1, 7, .cons (.asg (.nm 1) (.bf .dict (.cons (.var 0) (.nil)))) (.cons (.asg (.nm 2) (.set0)) (.cons (.asg (.nm 3) (.lst (.nil))) (.cons (.forK (.nm 4) 1 (.cons (.asg (.nm 5) (.lst (.nil))) (.cons (.asg (.nm 6) (.var 4)) (.cons (.whl (.cmp .NotIn (.var 6) (.var 2)) (.cons (.expr (.bm .add (.var 2) (.cons (.var 6) (.nil)))) (.cons (.expr (.bm .append (.var 5) (.cons (.var 6) (.nil)))) (.cons (.asg (.nm 6) (.ix (.var 1) (.var 6))) (.nil))))) (.cons (.ife (.cmp .Gt (.bf .len (.cons (.var 5) (.nil))) (.con (.int 1))) (.cons (.expr (.bm .append (.var 3) (.cons (.bf .tuple (.cons (.var 5) (.nil))) (.nil)))) (.nil)) (.nil)) (.nil)))))) (.cons (.ret (.some (.bf .tuple (.cons (.var 3) (.nil))))) (.nil)))))⟩
abbrev i_gap_distance : Nat := 2
def f_gap_distance : FDef := ⟨1, 5, .cons (.asg (.nm 1) (.lc (.var 2) (.tup (.cons (.nm 2) (.cons (.nm 3) (.nil)))) (.val (.var 0)) (.some (.and (.cmp .NotEq (.var 2) (.var 3)) (.one (.cmp .NotEq (.var 2) (.glo "GAP" (.str "")))))))) (.cons (.ret (.some (.bin .Add (.bf .len (.cons (.var 1) (.nil))) (.bf .len (.cons (.lc (.var 4) (.nm 4) (.val (.call i_cycles_of (.cons (.var 0) (.nil)))) (.some (.cmp .NotIn (.glo "GAP" (.str "")) (.var 4)))) (.nil)))))) (.nil))⟩
abbrev i_compose : Nat := 82
def f_compose : FDef := ⟨2, 5, .cons (.asg (.nm 2) (.bf .dict (.cons (.var 1) (.nil)))) (.cons (.ret (.some (.bf .tuple (.cons (.lc (.tup (.cons (.var 3) (.cons (.ix (.var 2) (.var 4)) (.nil)))) (.tup (.cons (.nm 3) (.cons (.nm 4) (.nil)))) (.val (.var 0)) (.none)) (.nil))))) (.nil))⟩
abbrev i_exchange : Nat := 83
def f_exchange : FDef := ⟨2, 4, .cons (.asg (.nm 2) (.dc (.var 3) (.var 3) (.nm 3) (.val (.var 0)))) (.cons (.asg (.tup (.cons (.sub (.var 2) (.glo "GAP" (.str ""))) (.cons (.sub (.var 2) (.var 1)) (.nil)))) (.tup (.cons (.var 1) (.cons (.glo "GAP" (.str "")) (.nil))))) (.cons (.ret (.some (.call i_as_pairs (.cons (.var 2) (.nil))))) (.nil)))⟩
abbrev i_gap_word : Nat := 84
def f_gap_word : FDef := ⟨1, 7, .cons (.asg (.nm 1) (.lc (.var 4) (.tup (.cons (.nm 4) (.cons (.nm 6) (.nil)))) (.val (.var 0)) (.none))) (.cons (.asg (.nm 2) (.var 0)) (.cons (.asg (.nm 3) (.lst (.nil))) (.cons (.whl (.cmp .Gt (.call i_gap_distance (.cons (.var 2) (.nil))) (.con (.int 0))) (.cons (.for_ (.nm 4) (.val (.slc (.var 1) (.some (.con (.int 1))) (.none))) (.cons (.asg (.nm 5) (.call i_compose (.cons (.call i_exchange (.cons (.var 1) (.cons (.var 4) (.nil)))) (.cons (.var 2) (.nil))))) (.cons (.ife (.cmp .Lt (.call i_gap_distance (.cons (.var 5) (.nil))) (.call i_gap_distance (.cons (.var 2) (.nil)))) (.cons (.expr (.bm .append (.var 3) (.cons (.var 4) (.nil)))) (.cons (.asg (.nm 2) (.var 5)) (.cons (.brk) (.nil)))) (.nil)) (.nil)))) (.nil))) (.cons (.ret (.some (.bf .tuple (.cons (.var 3) (.nil))))) (.nil)))))⟩
abbrev i__law_source : Nat := 3
def f__law_source : FDef := ⟨2, 3, .cons (.asg (.nm 2) (.con (.int 0))) (.cons (.ife (.cmp .Lt (.var 1) (.bf .len (.cons (.var 0) (.nil)))) (.cons (.asg (.nm 2) (.ix (.var 0) (.var 1))) (.nil)) (.nil)) (.cons (.ret (.some (.lst (.cons (.bf .max2 (.cons (.con (.int 0)) (.cons (.bin .Sub (.var 2) (.bin .Pow (.con (.int 10)) (.con (.int 18)))) (.nil)))) (.cons (.bin .Add (.bin .Mod (.var 2) (.bin .Add (.bin .Pow (.con (.int 10)) (.con (.int 37))) (.con (.int 43)))) (.bin .Mult (.con (.int 1299709)) (.var 1))) (.cons (.con (.int 0)) (.nil))))))) (.nil)))⟩
abbrev i__law_draw : Nat := 4
def f__law_draw : FDef := ⟨2, 4, .cons (.ife (.cmp .Gt (.ix (.var 0) (.con (.int 0))) (.con (.int 0))) (.cons (.asg (.nm 2) (.bin .Mod (.ix (.var 0) (.con (.int 0))) (.var 1))) (.cons (.asg (.sub (.var 0) (.con (.int 0))) (.bin .FloorDiv (.ix (.var 0) (.con (.int 0))) (.var 1))) (.cons (.ret (.some (.var 2))) (.nil)))) (.nil)) (.cons (.asg (.sub (.var 0) (.con (.int 2))) (.bin .Add (.ix (.var 0) (.con (.int 2))) (.con (.int 1)))) (.cons (.asg (.nm 3) (.bin .Mod (.bin .Pow (.bin .Add (.ix (.var 0) (.con (.int 1))) (.bin .Mult (.con (.int 15485863)) (.ix (.var 0) (.con (.int 2))))) (.con (.int 3))) (.bin .Add (.bin .Pow (.con (.int 10)) (.con (.int 35))) (.con (.int 69))))) (.cons (.asg (.nm 3) (.bin .Mod (.bin .Pow (.bin .Add (.var 3) (.bin .Mult (.con (.int 32452843)) (.ix (.var 0) (.con (.int 2))))) (.con (.int 3))) (.bin .Add (.bin .Pow (.con (.int 10)) (.con (.int 32))) (.con (.int 49))))) (.cons (.ret (.some (.bin .Mod (.bin .FloorDiv (.var 3) (.con (.int 8191))) (.var 1)))) (.nil)))))⟩
abbrev i__law_shuffled : Nat := 5
def f__law_shuffled : FDef := ⟨2, 4, .cons (.asg (.nm 2) (.bf .list (.cons (.var 1) (.nil)))) (.cons (.ret (.some (.lc (.bm .popAt (.var 2) (.cons (.call i__law_draw (.cons (.var 0) (.cons (.bf .len (.cons (.var 2) (.nil))) (.nil)))) (.nil))) (.nm 3) (.range (.cons (.bf .len (.cons (.var 2) (.nil))) (.nil))) (.none)))) (.nil))⟩
abbrev i__law_permutation : Nat := 6
def f__law_permutation : FDef := ⟨2, 10, .cons (.asg (.nm 2) (.call i__law_draw (.cons (.var 0) (.cons (.bin .Add (.var 1) (.con (.int 1))) (.nil))))) (.cons (.asg (.nm 3) (.lst (.cons (.con (.str "a")) (.cons (.con (.str "b")) (.cons (.con (.str "B")) (.cons (.con (.str "ab")) (.cons (.con (.str "zz")) (.cons (.con (.str "C")) (.cons (.con (.str "x")) (.cons (.con (.str "aa")) (.cons (.con (.str "Aa")) (.cons (.con (.str "q")) (.cons (.con (.str "r")) (.cons (.con (.str "Zz")) (.nil))))))))))))))) (.cons (.asg (.nm 3) (.bin .Add (.var 3) (.lst (.cons (.con (.str "abc")) (.cons (.con (.str "abd")) (.cons (.con (.str "Abcdef")) (.cons (.con (.str "abcdef")) (.cons (.con (.str "A")) (.cons (.con (.str "abcd")) (.nil)))))))))) (.cons (.asg (.nm 4) (.bin .Add (.lst (.cons (.con (.str "")) (.nil))) (.slc (.call i__law_shuffled (.cons (.var 0) (.cons (.var 3) (.nil)))) (.none) (.some (.var 2))))) (.cons (.asg (.nm 5) (.call i__law_shuffled (.cons (.var 0) (.cons (.var 4) (.nil))))) (.cons (.asg (.nm 6) (.call i__law_draw (.cons (.var 0) (.cons (.con (.int 5)) (.nil))))) (.cons (.asg (.nm 7) (.dsp (.nil) (.nil))) (.cons (.for_ (.nm 8) (.range (.cons (.bf .len (.cons (.var 4) (.nil))) (.nil))) (.cons (.asg (.sub (.var 7) (.ix (.var 4) (.var 8))) (.ix (.var 5) (.var 8))) (.nil))) (.cons (.ife (.cmp .Eq (.var 6) (.con (.int 1))) (.cons (.for_ (.nm 8) (.range (.cons (.bf .len (.cons (.var 5) (.nil))) (.nil))) (.cons (.asg (.sub (.var 7) (.ix (.var 5) (.bin .Sub (.var 8) (.con (.int 1))))) (.ix (.var 5) (.var 8))) (.nil))) (.nil)) (.nil)) (.cons (.ife (.cmp .Gt (.var 6) (.con (.int 1))) (.cons (.for_ (.nm 9) (.val (.var 4)) (.cons (.asg (.sub (.var 7) (.var 9)) (.var 9)) (.nil))) (.cons (.for_ (.nm 8) (.range (.cons (.con (.int 0)) (.cons (.bin .Sub (.bf .len (.cons (.var 5) (.nil))) (.con (.int 1))) (.cons (.con (.int 2)) (.nil))))) (.cons (.ife (.or (.cmp .Eq (.var 6) (.con (.int 2))) (.one (.and (.cmp .Eq (.var 6) (.con (.int 3))) (.one (.cmp .Lt (.var 8) (.con (.int 4))))))) (.cons (.asg (.sub (.var 7) (.ix (.var 5) (.var 8))) (.ix (.var 5) (.bin .Add (.var 8) (.con (.int 1))))) (.cons (.asg (.sub (.var 7) (.ix (.var 5) (.bin .Add (.var 8) (.con (.int 1))))) (.ix (.var 5) (.var 8))) (.nil))) (.nil)) (.nil))) (.nil))) (.nil)) (.cons (.ret (.some (.bf .tuple (.cons (.lc (.tup (.cons (.var 9) (.cons (.ix (.var 7) (.var 9)) (.nil)))) (.nm 9) (.val (.bf .sorted (.cons (.var 4) (.nil)))) (.none)) (.nil))))) (.nil)))))))))))⟩
abbrev i__law_cycles : Nat := 7
def f__law_cycles : FDef := ⟨1, 6, .cons (.asg (.nm 1) (.bf .dict (.cons (.var 0) (.nil)))) (.cons (.asg (.nm 2) (.dsp (.nil) (.nil))) (.cons (.asg (.nm 3) (.lst (.nil))) (.cons (.for_ (.nm 4) (.val (.bf .sorted (.cons (.var 1) (.nil)))) (.cons (.asg (.nm 5) (.lst (.nil))) (.cons (.whl (.cmp .NotIn (.var 4) (.var 2)) (.cons (.asg (.sub (.var 2) (.var 4)) (.con (.bl true))) (.cons (.expr (.bm .append (.var 5) (.cons (.var 4) (.nil)))) (.cons (.asg (.nm 4) (.ix (.var 1) (.var 4))) (.nil))))) (.cons (.ife (.cmp .Gt (.bf .len (.cons (.var 5) (.nil))) (.con (.int 1))) (.cons (.expr (.bm .append (.var 3) (.cons (.bf .tuple (.cons (.var 5) (.nil))) (.nil)))) (.nil)) (.nil)) (.nil))))) (.cons (.ret (.some (.bf .tuple (.cons (.var 3) (.nil))))) (.nil)))))⟩
abbrev i__law_distance : Nat := 8
def f__law_distance : FDef := ⟨1, 5, .cons (.asg (.nm 1) (.lc (.var 2) (.tup (.cons (.nm 2) (.cons (.nm 3) (.nil)))) (.val (.var 0)) (.some (.and (.cmp .NotEq (.var 2) (.var 3)) (.one (.cmp .NotEq (.var 2) (.con (.str "")))))))) (.cons (.ret (.some (.bin .Add (.bf .len (.cons (.var 1) (.nil))) (.bf .len (.cons (.lc (.var 4) (.nm 4) (.val (.call i__law_cycles (.cons (.var 0) (.nil)))) (.some (.cmp .NotIn (.con (.str "")) (.var 4)))) (.nil)))))) (.nil))⟩
abbrev i__law_odd : Nat := 9
def f__law_odd : FDef := ⟨1, 2, .cons (.ret (.some (.cmp .Eq (.bin .Mod (.bf .sum (.cons (.lc (.bin .Sub (.bf .len (.cons (.var 1) (.nil))) (.con (.int 1))) (.nm 1) (.val (.call i__law_cycles (.cons (.var 0) (.nil)))) (.none)) (.nil))) (.con (.int 2))) (.con (.int 1))))) (.nil)⟩
abbrev i__law_without_2 : Nat := 214
def f__law_without_2 : FDef := ⟨2, 6, .cons (.asg (.nm 2) (.dis (.cons (.con (.str "")) (.cons (.var 1) (.cons (.var 1) (.cons (.con (.str "")) (.nil))))))) (.cons (.asg (.nm 3) (.bf .dict (.cons (.var 0) (.nil)))) (.cons (.ret (.some (.bf .tuple (.cons (.lc (.tup (.cons (.var 4) (.cons (.ix (.var 3) (.bm .get2 (.var 2) (.cons (.var 4) (.cons (.var 4) (.nil))))) (.nil)))) (.tup (.cons (.nm 4) (.cons (.nm 5) (.nil)))) (.val (.var 0)) (.none)) (.nil))))) (.nil)))⟩
abbrev i_law_35 : Nat := 215
def f_law_35 : FDef := ⟨1, 11, .cons (.for_ (.nm 1) (.range (.cons (.bf .max2 (.cons (.con (.int 1)) (.cons (.bf .min2 (.cons (.con (.int 4)) (.cons (.bf .len (.cons (.var 0) (.nil))) (.nil)))) (.nil)))) (.nil))) (.cons (.asg (.nm 2) (.call i__law_source (.cons (.var 0) (.cons (.var 1) (.nil))))) (.cons (.asg (.nm 3) (.call i__law_permutation (.cons (.var 2) (.cons (.con (.int 12)) (.nil))))) (.cons (.asg (.nm 4) (.call i_gap_word (.cons (.var 3) (.nil)))) (.cons (.asg (.nm 5) (.lc (.var 7) (.tup (.cons (.nm 7) (.cons (.nm 10) (.nil)))) (.val (.var 3)) (.some (.cmp .NotEq (.var 7) (.con (.str "")))))) (.cons (.ife (.or (.not (.isi true (.var 4))) (.or (.cmp .NotEq (.bf .len (.cons (.var 4) (.nil))) (.call i__law_distance (.cons (.var 3) (.nil)))) (.one (.cmp .NotEq (.call i_gap_word (.cons (.var 3) (.nil))) (.var 4))))) (.cons (.ret (.some (.con (.bl false)))) (.nil)) (.nil)) (.cons (.asg (.nm 6) (.var 3)) (.cons (.for_ (.nm 7) (.val (.var 4)) (.cons (.asg (.nm 8) (.bin .Sub (.call i__law_distance (.cons (.var 6) (.nil))) (.con (.int 1)))) (.cons (.ife (.or (.cmp .NotIn (.var 7) (.var 5)) (.one (.cmp .NotEq (.call i__law_distance (.cons (.call i__law_without_2 (.cons (.var 6) (.cons (.var 7) (.nil)))) (.nil))) (.var 8)))) (.cons (.ret (.some (.con (.bl false)))) (.nil)) (.nil)) (.cons (.for_ (.nm 9) (.val (.var 5)) (.cons (.ife (.and (.cmp .Lt (.var 9) (.var 7)) (.one (.cmp .Eq (.call i__law_distance (.cons (.call i__law_without_2 (.cons (.var 6) (.cons (.var 9) (.nil)))) (.nil))) (.var 8)))) (.cons (.ret (.some (.con (.bl false)))) (.nil)) (.nil)) (.nil))) (.cons (.asg (.nm 6) (.call i__law_without_2 (.cons (.var 6) (.cons (.var 7) (.nil))))) (.nil)))))) (.cons (.ife (.cmp .NotEq (.lc (.var 7) (.tup (.cons (.nm 7) (.cons (.nm 10) (.nil)))) (.val (.var 6)) (.some (.cmp .NotEq (.var 7) (.var 10)))) (.lst (.nil))) (.cons (.ret (.some (.con (.bl false)))) (.nil)) (.nil)) (.nil)))))))))) (.cons (.ret (.some (.con (.bl true)))) (.nil))⟩
theorem ixD_rol {xs : List D} {i : Nat} {d : D} {S : Store} (h : xs[i]? = some d) : ixD (.rol xs) (.int i) S = some d := by
  show ixAt xs i = some d
  unfold ixAt L2.atI L2.ixN
  have hi := (List.getElem?_eq_some_iff.mp h).1
  rw [if_pos (by omega)]
  have hi' : (i : Int) < xs.length := by omega
  simp only [Int.toNat_natCast]
  rw [if_pos hi']
  exact h
theorem p18 : opI .Pow 10 18 = some 1000000000000000000 := by decide +kernel
theorem p37 : opI .Pow 10 37 = some 10000000000000000000000000000000000000 := by decide +kernel
theorem p35 : opI .Pow 10 35 = some 100000000000000000000000000000000000 := by decide +kernel
theorem p32 : opI .Pow 10 32 = some 100000000000000000000000000000000 := by decide +kernel
/-- the script's cell, drawn from: its numbers stay small, m: how often it was drawn from, at most -/
def SrcC (c : Cell) (m : Nat) : Prop := ∃ x y z : Int, c = .lst [.int x, .int y, .int z] ∧ 0 ≤ y ∧ y < 10 ^ 38 ∧ 0 ≤ z ∧ z ≤ m
theorem log_small {i : Int} (h : i.natAbs < 2 ^ 10000) : i.natAbs.log2 < 10001 := by
  by_cases z : i.natAbs = 0
  · rw [z]; decide
  · exact Nat.lt_succ_of_lt ((Nat.log2_lt z).mpr h)
theorem src_ok {Γ : Nat → Option FDef} {k : Nat} (h : Γ i__law_source = some f__law_source) (ns : List Int) (i : Nat) (hi : i < 100) (S : Store) :
    ∃ a b : Int, 0 ≤ b ∧ b < 10 ^ 38 ∧ callN Γ (k + 1) i__law_source [.rol (ns.map D.int), .int i] S = .ok (.loc S.length) (S ++ [.lst [.int a, .int b, .int 0]]) := by
  have hm : opI .Mult 1299709 (i : Int) = some (1299709 * i) := opi_mul (by
    have e : (1299709 : Int).natAbs.log2 < 10001 := log_small (by decide +kernel)
    have e2 : (i : Int).natAbs.log2 < 10001 := log_small (by
      have : (100 : Nat) < 2 ^ 10000 := Nat.lt_of_lt_of_le (by decide) (Nat.pow_le_pow_right (by decide) (show 7 ≤ 10000 by decide))
      simp only [Int.natAbs_natCast]; omega)
    omega)
  have key : ∀ cell : Int, 0 ≤ cell % 10000000000000000000000000000000000043 + 1299709 * i ∧ cell % 10000000000000000000000000000000000043 + 1299709 * i < 10 ^ 38 := fun cell => by
    have h1 := Int.emod_nonneg cell (show (10000000000000000000000000000000000043 : Int) ≠ 0 by decide)
    have h2 := Int.emod_lt_of_pos cell (show (0 : Int) < 10000000000000000000000000000000000043 by decide)
    omega
  have main : ∀ cell : Int, (if i < ns.length then ns[i]? else some 0) = some cell → callN Γ (k + 1) i__law_source [.rol (ns.map D.int), .int i] S = .ok (.loc S.length) (S ++ [.lst [.int (if 0 < cell - 1000000000000000000 then cell - 1000000000000000000 else 0), .int (cell % 10000000000000000000000000000000000043 + 1299709 * i), .int 0]]) := fun cell hc => by
    rw [callN_eq h rfl]
    by_cases c : i < ns.length
    · rw [if_pos c] at hc
      have hx : ns[i] = cell := by simpa [c] using hc
      subst hx
      simp [f__law_source, c, p18, p37, hm]
    · rw [if_neg c] at hc
      cases hc
      simp [f__law_source, c, p18, p37, hm]
  by_cases c : i < ns.length
  · exact ⟨_, _, (key _).1, (key _).2, main ns[i] (by rw [if_pos c]; exact List.getElem?_eq_getElem c)⟩
  · exact ⟨_, _, (key 0).1, (key 0).2, main 0 (by rw [if_neg c])⟩

theorem bits_small {i : Int} (h : 0 ≤ i) (h2 : i < 2 ^ 200) : Builtin.Int.intBits i ≤ 201 := by
  unfold Builtin.Int.intBits
  split
  · omega
  · rename_i z
    have z : i ≠ 0 := by simpa using z
    have := (Nat.log2_lt (n := i.natAbs) (k := 200) (by omega)).mpr (by omega)
    omega
theorem draw_ok {Γ : Nat → Option FDef} {k : Nat} (h : Γ i__law_draw = some f__law_draw) {S : Store} {s m : Nat} {c : Cell} (hs : S[s]? = some c) (hc : SrcC c m) (hm : m < 10 ^ 15) {b : Nat} (hb : 0 < b) (hb2 : b < 10 ^ 30) :
    ∃ r c', r < b ∧ SrcC c' (m + 1) ∧ callN Γ (k + 1) i__law_draw [.loc s, .int b] S = .ok (.int (r : Nat)) (S.set s c') := by
  obtain ⟨x, y, z, rfl, hy, hy2, hz, hz2⟩ := hc
  have st : ∀ c, (S.set s c)[s]? = some c := fun c => List.getElem?_set_self (List.getElem?_eq_some_iff.mp hs).1
  have em : ∀ i : Int, opI .Mod i b = some (i % b) := fun i => opi_mod (by omega)
  have lg : ∀ i : Int, 0 ≤ i → i < 2 ^ 200 → i.natAbs.log2 < 1000 := fun i h0 h1 => by
    by_cases z : i.natAbs = 0
    · rw [z]; decide
    · have := (Nat.log2_lt (k := 200) z).mpr (by omega)
      omega
  have ed : ∀ i : Int, opI .FloorDiv i b = some (i / b) := fun i => opi_fdiv (by omega) (by have := lg (b : Int) (by omega) (by omega); omega)
  have hr : ∀ i : Int, ∃ r : Nat, r < b ∧ i % (b : Int) = r := fun i => by
    have h1 := Int.emod_nonneg i (show (b : Int) ≠ 0 by omega)
    have h2 := Int.emod_lt_of_pos i (show (0 : Int) < b by omega)
    exact ⟨(i % (b : Int)).toNat, by omega, by omega⟩
  by_cases c : 0 < x
  · obtain ⟨r, r1, r2⟩ := hr x
    refine ⟨r, .lst [.int (x / b), .int y, .int z], r1, ⟨_, _, _, rfl, hy, hy2, hz, by omega⟩, ?_⟩
    rw [callN_eq h rfl]
    simp [f__law_draw, hs, st, c, em, ed, r2]
  · have m1 : opI .Mult 15485863 (z + 1) = some (15485863 * (z + 1)) := opi_mul (by have := lg 15485863 (by omega) (by omega); have := lg (z + 1) (by omega) (by omega); omega)
    have m2 : opI .Mult 32452843 (z + 1) = some (32452843 * (z + 1)) := opi_mul (by have := lg 32452843 (by omega) (by omega); have := lg (z + 1) (by omega) (by omega); omega)
    have q1 : opI .Pow (y + 15485863 * (z + 1)) 3 = some ((y + 15485863 * (z + 1)) ^ 3) := opi_pow (j := 3) (by have := bits_small (i := y + 15485863 * (z + 1)) (by omega) (by omega); omega)
    obtain ⟨a, ha⟩ : ∃ a, a = (y + 15485863 * (z + 1)) ^ 3 % 100000000000000000000000000000000069 := ⟨_, rfl⟩
    have a1 := Int.emod_nonneg ((y + 15485863 * (z + 1)) ^ 3) (show (100000000000000000000000000000000069 : Int) ≠ 0 by decide)
    have a2 := Int.emod_lt_of_pos ((y + 15485863 * (z + 1)) ^ 3) (show (0 : Int) < 100000000000000000000000000000000069 by decide)
    rw [← ha] at a1 a2
    have q2 : opI .Pow (a + 32452843 * (z + 1)) 3 = some ((a + 32452843 * (z + 1)) ^ 3) := opi_pow (j := 3) (by have := bits_small (i := a + 32452843 * (z + 1)) (by omega) (by omega); omega)
    have d1 : ∀ i : Int, opI .FloorDiv i 8191 = some (i / 8191) := fun i => opi_fdiv (by omega) (by decide +kernel)
    obtain ⟨r, r1, r2⟩ := hr ((a + 32452843 * (z + 1)) ^ 3 % 100000000000000000000000000000049 / 8191)
    refine ⟨r, .lst [.int x, .int y, .int (z + 1)], r1, ⟨_, _, _, rfl, hy, hy2, by omega, by omega⟩, ?_⟩
    rw [callN_eq h rfl]
    simp [f__law_draw, hs, st, c, em, ed, m1, m2, q1, p35, p32, opi_mod, ← ha, q2, d1, r2]
/-! ### shuffled -/
theorem erase_perm {d : D} : ∀ {xs : List D} {i : Nat}, xs[i]? = some d → (xs.eraseIdx i ++ [d]).Perm xs
  | [], _, h => by simp at h
  | x :: xs, 0, h => by
    cases h
    exact List.perm_append_comm
  | x :: xs, i + 1, h => (erase_perm (xs := xs) (i := i) (by simpa using h)).cons x
theorem shuf_ok {Γ : Nat → Option FDef} {k : Nat} (h : Γ i__law_shuffled = some f__law_shuffled) (h2 : Γ i__law_draw = some f__law_draw) {S : Store} {s m : Nat} {c : Cell} (hs : S[s]? = some c) (hc : SrcC c m) {d : D} {xs : List D} (hx : seqOf S d = some xs) (hcl : D.cls S.length xs = true) (hn : xs.length < 10 ^ 6) (hm : m + xs.length < 10 ^ 15) :
    ∃ ys c', ys.Perm xs ∧ SrcC c' (m + xs.length) ∧ callN Γ (k + 2) i__law_shuffled [.loc s, d] S = .ok (.loc S.length) (S.set s c' ++ [.lst ys]) := by
  have hsl := (List.getElem?_eq_some_iff.mp hs).1
  have srcl : ∀ {c : Cell} {m n : Nat}, SrcC c m → c.cl n = true := fun {c m n} q => by
    obtain ⟨x, y, z, rfl, _⟩ := q
    simp
  -- the turns
  have turns : ∃ S', loopC .free (turnC (callN Γ (k + 1)) (.bm .popAt (.var 2) (.cons (.call i__law_draw (.cons (.var 0) (.cons (.bf .len (.cons (.var 2) .nil)) .nil))) .nil)) (.nm 3) .none [some (.loc s), some d, some (.loc S.length), none]) (S.length + 1) (rangeL 0 xs.length) (S ++ [.lst xs, .lst []]) = .ok () S' ∧
      ∃ c' left ys, S' = S.set s c' ++ [.lst left, .lst ys] ∧ SrcC c' (m + (rangeL 0 xs.length).length) ∧ left.length + (rangeL 0 xs.length).length = xs.length ∧ (left ++ ys).Perm xs := by
    refine loopC_all (src := .free) (fun i S' => ∃ c' left ys, S' = S.set s c' ++ [.lst left, .lst ys] ∧ SrcC c' (m + i) ∧ left.length + i = xs.length ∧ (left ++ ys).Perm xs) ?_ ?_ (fun _ _ => rfl)
    · exact ⟨c, xs, [], by rw [set_self hs], hc, rfl, by simp⟩
    · rintro i x S' ⟨c', left, ys, rfl, hc', hl, hp⟩ hi
      refine ⟨rfl, ?_⟩
      have hi2 : i < xs.length := by
        have := (List.getElem?_eq_some_iff.mp hi).1
        simpa [rangeL_len] using this
      have hT : (S.set s c').length = S.length := by simp
      have g0 : (S.set s c' ++ [.lst left, .lst ys])[s]? = some c' := get_old (List.getElem?_set_self hsl)
      have g1 : ∀ c'', (S.set s c'' ++ [.lst left, .lst ys])[S.length]? = some (.lst left) := fun c'' => by
        have := get_app0 (S := S.set s c'') (T := [.lst left, .lst ys])
        rw [List.length_set] at this
        exact this
      obtain ⟨r, c'', r1, r2, r3⟩ := draw_ok (k := k) h2 g0 hc' (by omega) (b := left.length) (by omega) (by omega)
      rw [set_app (by simpa using hsl), List.set_set] at r3
      obtain ⟨e, he⟩ : ∃ e, left[r]? = some e := ⟨_, List.getElem?_eq_getElem r1⟩
      have g2 := pop_ok (g1 c'') he (by omega)
      have g3 : (S.set s c'' ++ [Cell.lst left, .lst ys]).set S.length (.lst (left.eraseIdx r)) = S.set s c'' ++ [Cell.lst (left.eraseIdx r), .lst ys] := by
        have := set_new0 (S := S.set s c'') (T := [.lst left, .lst ys]) (c := .lst (left.eraseIdx r))
        rw [List.length_set] at this
        exact this
      rw [g3] at g2
      have tn : turnC (callN Γ (k + 1)) (.bm .popAt (.var 2) (.cons (.call i__law_draw (.cons (.var 0) (.cons (.bf .len (.cons (.var 2) .nil)) .nil))) .nil)) (.nm 3) .none [some (.loc s), some d, some (.loc S.length), none] x (S.set s c' ++ [.lst left, .lst ys]) = .ok (some e) (S.set s c'' ++ [.lst (left.eraseIdx r), .lst ys]) := by
        have bk : bmK .popAt (.loc S.length) (S.set s c' ++ [.lst left, .lst ys]) = true := by simp only [bmK, g1]
        simp [turnC, bindT, slotsT, wipeE, evC, bk, lenD_loc (g1 c'), r3, g2]
      have ce : e.cl S.length = true := cls_mem.mp hcl e (hp.subset (List.mem_append_left _ (List.mem_of_getElem? he)))
      have cl1 : ∀ y ∈ left ++ ys, y.cl S.length = true := fun y hy => cls_mem.mp hcl y (hp.subset hy)
      have gk : gc (S.set s c' ++ [.lst left, .lst ys]) e (S.set s c'' ++ [.lst (left.eraseIdx r), .lst ys]) = .ok e (S.set s c'' ++ [.lst (left.eraseIdx r), .lst ys]) := by
        have := gc_keep (S := S.set s c' ++ [.lst left, .lst ys]) (S' := S.set s c'' ++ [.lst (left.eraseIdx r), .lst ys]) (T := []) (d := e) (by simp) (fun j cc hj => ?_) (D.cl_mono (by simp) ce)
        · rwa [List.append_nil] at this
        · by_cases j1 : j < S.length
          · rw [List.getElem?_append_left (by simpa using j1)] at hj
            by_cases j2 : s = j
            · subst j2
              rw [List.getElem?_set_self hsl] at hj
              cases hj
              exact .inr (srcl r2)
            · left
              rw [List.getElem?_append_left (by simpa using j1), List.getElem?_set_ne j2]
              rw [List.getElem?_set_ne j2] at hj
              exact hj
          · by_cases j3 : j = S.length
            · subst j3
              have := g1
              have z : (S.set s c'' ++ [Cell.lst (left.eraseIdx r), .lst ys])[S.length]? = some (.lst (left.eraseIdx r)) := by
                have := get_app0 (S := S.set s c'') (T := [Cell.lst (left.eraseIdx r), .lst ys])
                rw [List.length_set] at this
                exact this
              rw [z] at hj
              cases hj
              right
              rw [cl_lst, cls_mem]
              exact fun y hy => D.cl_mono (by simp) (cl1 y (List.mem_append_left _ (List.eraseIdx_subset hy)))
            · left
              rw [List.getElem?_append_right (by simp; omega)] at hj ⊢
              simp only [List.length_set] at hj ⊢
              have : j - S.length = 1 ∨ 1 < j - S.length := by omega
              rcases this with z | z
              · rw [z] at hj ⊢
                exact hj
              · rw [List.getElem?_eq_none (by simp; omega)] at hj
                cases hj
      refine ⟨S.set s c'' ++ [.lst (left.eraseIdx r), .lst (ys ++ [e])], ?_, c'', left.eraseIdx r, ys ++ [e], rfl, by rw [← Nat.add_assoc]; exact r2, ?_, ?_⟩
      · unfold oneC
        rw [tn]
        show (gc _ e _).bind _ = _
        rw [gk, bind_ok]
        have z : (S.set s c'' ++ [Cell.lst (left.eraseIdx r), .lst ys])[S.length + 1]? = some (.lst ys) := by
          have := get_app (S := S.set s c'') (T := [Cell.lst (left.eraseIdx r), .lst ys]) (j := 1)
          rw [List.length_set] at this
          exact this
        have z2 : (S.set s c'' ++ [Cell.lst (left.eraseIdx r), .lst ys]).set (S.length + 1) (.lst (ys ++ [e])) = S.set s c'' ++ [Cell.lst (left.eraseIdx r), .lst (ys ++ [e])] := by
          have := set_new (S := S.set s c'') (T := [Cell.lst (left.eraseIdx r), .lst ys]) (j := 1) (c := .lst (ys ++ [e]))
          rw [List.length_set] at this
          exact this
        simp only [z, z2]
        rw [if_pos]
        have := hp.length_eq
        rw [List.length_append] at this
        have : sizeLine = 16777216 := sizeLine_eq
        omega
      · rw [List.length_eraseIdx, if_pos r1]
        omega
      · refine List.Perm.trans ?_ hp
        have := (erase_perm he).append_right ys
        refine List.Perm.trans ?_ this
        rw [List.append_assoc]
        exact (List.perm_append_comm (l₁ := ys) (l₂ := [e])).append_left _
  obtain ⟨S', e1, c', left, ys, rfl, hc', hl, hp⟩ := turns
  rw [rangeL_len] at hc' hl
  have l0 : left = [] := List.eq_nil_of_length_eq_zero (by omega)
  subst l0
  refine ⟨ys, c', hp, hc', ?_⟩
  rw [callN_eq h rfl]
  have sm : small62 (xs.length : Int) = true := decide_eq_true (by omega)
  have rg : rangeOf [.int xs.length] = some (rangeL 0 xs.length) := by
    show (if small62 (xs.length : Int) = true then some (rangeL 0 (xs.length : Int).toNat) else none) = _
    rw [if_pos sm, Int.toNat_natCast]
  have bl : bfD .list [d] S = .ok (.loc S.length) (S ++ [.lst xs]) := by
    show (match seqOf S d with | some xs => newC (.lst xs) S | none => .bad) = _
    rw [hx]
    rfl
  have ln : lenD (S ++ [.lst xs]) (.loc S.length) = some xs.length := lenD_loc get_app0
  have gl : gc S (.loc (S.length + 1)) (S.set s c' ++ [.lst [], .lst ys]) = .ok (.loc S.length) (S.set s c' ++ [.lst ys]) := by
    refine gc_keepN (by simp) (fun j cc hj => ?_) rfl (by rw [cl_lst, cls_mem]; exact fun y hy => cls_mem.mp hcl y (hp.subset hy))
    by_cases j2 : s = j
    · subst j2
      rw [List.getElem?_set_self hsl] at hj
      cases hj
      exact .inr (srcl hc')
    · left
      rw [List.getElem?_set_ne j2] at hj
      exact hj
  have t1 : evI (callN Γ (k + 1)) (.range (.cons (.bf .len (.cons (.var 2) .nil)) .nil)) [some (.loc s), some d, some (.loc S.length), none] (S ++ [.lst xs]) = .ok (rangeL 0 xs.length, .free) (S ++ [.lst xs]) := by
    simp [ln, rg]
  have t2 : evE (callN Γ (k + 1)) (.lc (.bm .popAt (.var 2) (.cons (.call i__law_draw (.cons (.var 0) (.cons (.bf .len (.cons (.var 2) .nil)) .nil))) .nil)) (.nm 3) (.range (.cons (.bf .len (.cons (.var 2) .nil)) .nil)) .none) [some (.loc s), some d, some (.loc S.length), none] (S ++ [.lst xs]) = .ok (.loc (S.length + 1)) (S.set s c' ++ [.lst [], .lst ys]) := by
    have el : (S ++ [Cell.lst xs]).length = S.length + 1 := by simp
    rw [ev_lc, t1, bind_ok, el]
    have ea : S ++ [Cell.lst xs] ++ [.lst []] = S ++ [.lst xs, .lst []] := by simp
    rw [ea]
    show (loopC .free (turnC (callN Γ (k + 1)) (.bm .popAt (.var 2) (.cons (.call i__law_draw (.cons (.var 0) (.cons (.bf .len (.cons (.var 2) .nil)) .nil))) .nil)) (.nm 3) .none [some (.loc s), some d, some (.loc S.length), none]) (S.length + 1) (rangeL 0 xs.length) (S ++ [.lst xs, .lst []])).bind _ = _
    rw [e1, bind_ok]
  simp [f__law_shuffled, bl, t2, gl]
end Iv

set_option maxRecDepth 100000
namespace Iv
open PySem
/-! ### permutations, as pairs -/
abbrev Pm := List (Str × Str)
def pd (p : Pm) : List D := p.map fun q => .tup [.str q.1, .str q.2]
def kd (p : Pm) : List (Key × D) := p.map fun q => (.inr q.1, .str q.2)
theorem pairs_pd : ∀ p : Pm, pairsOf (pd p) = some (kd p)
  | [] => rfl
  | q :: p => by
    show (match D.key? (.str q.1), pairsOf (pd p) with | some k, some ps => some ((k, D.str q.2) :: ps) | _, _ => none) = _
    rw [pairs_pd p]
    rfl
theorem putA_new {κ β : Type} [DecidableEq κ] {k : κ} {v : β} : ∀ {l : List (κ × β)}, k ∉ l.map (·.1) → putA k v l = l ++ [(k, v)]
  | [], _ => rfl
  | (a, b) :: r, h => by
    have h1 : a ≠ k := fun e => h (by simp [e])
    unfold putA
    rw [if_neg h1, putA_new fun z => h (List.mem_cons_of_mem _ z)]
    rfl
theorem fromPairs_app : ∀ {ps acc : List (Key × D)}, ((acc ++ ps).map (·.1)).Nodup → fromPairs acc ps = acc ++ ps
  | [], acc, _ => by simp [fromPairs]
  | (k, v) :: ps, acc, h => by
    have nk : k ∉ acc.map (·.1) := by
      rw [List.map_append, List.nodup_append] at h
      exact fun z => h.2.2 k z k (by simp) rfl
    show fromPairs (putA k v acc) ps = _
    rw [putA_new nk, fromPairs_app (by simpa using h)]
    simp
theorem kd_keys (p : Pm) : (kd p).map (·.1) = (p.map (·.1)).map Sum.inr := by
  unfold kd
  rw [List.map_map, List.map_map]
  rfl
theorem dict_pd {p : Pm} (h : (p.map (·.1)).Nodup) {S : Store} : bfD .dict [.tup (pd p)] S = .ok (.loc S.length) (S ++ [.dct false (kd p)]) := by
  have nd : ((kd p).map (·.1)).Nodup := by
    rw [kd_keys]
    exact List.Pairwise.map _ (fun a b hab e => hab (Sum.inr.inj e)) h
  have e : fromPairs [] (kd p) = kd p := by
    rw [fromPairs_app (by simpa using nd)]
    rfl
  show (match (seqOf S (.tup (pd p))).bind pairsOf with | some ps => newC (.dct false (fromPairs [] ps)) S | none => .bad) = _
  show (match pairsOf (pd p) with | some ps => newC (.dct false (fromPairs [] ps)) S | none => .bad) = _
  rw [pairs_pd]
  show newC (.dct false (fromPairs [] (kd p))) S = _
  rw [e]
  rfl
def im (p : Pm) (l : Str) : Str := (lookA l p).getD l
theorem look_kd {l : Str} : ∀ {p : Pm}, l ∈ p.map (·.1) → lookA (.inr l) (kd p) = some (.str (im p l))
  | [], h => by simp at h
  | (a, b) :: p, h => by
    show (if (Sum.inr a : Key) = .inr l then some (D.str b) else lookA (.inr l) (kd p)) = some (.str (((if a = l then some b else lookA l p)).getD l))
    by_cases e : a = l
    · rw [if_pos (by rw [e]), if_pos e]
      rfl
    · rw [if_neg (fun z => e (Sum.inr.inj z)), if_neg e]
      exact look_kd (by
        rcases List.mem_cons.mp h with h | h
        · exact absurd h.symm e
        · exact h)
/-- a walk along the images, until a label was seen -/
def walkC (p : Pm) : Nat → List Str → Str → List Str
  | 0, _, _ => []
  | n + 1, seen, l => if hasS l seen then [] else l :: walkC p n (seen ++ [l]) (im p l)
def cyc (p : Pm) : List Str → List Str → List (List Str)
  | [], _ => []
  | s :: r, seen => if 1 < (walkC p (p.length + 1) seen s).length then walkC p (p.length + 1) seen s :: cyc p r (seen ++ walkC p (p.length + 1) seen s) else cyc p r (seen ++ walkC p (p.length + 1) seen s)
/-- keys that are met once, images among them -/
structure PmOk (p : Pm) : Prop where
  nd : (p.map (·.1)).Nodup
  into : ∀ l ∈ p.map (·.1), im p l ∈ p.map (·.1)
  few : p.length < 100

theorem nodup_len {α : Type} [DecidableEq α] : ∀ {l m : List α}, l.Nodup → (∀ x ∈ l, x ∈ m) → l.length ≤ m.length
  | [], _, _, _ => Nat.zero_le _
  | x :: l, m, h, s => by
    obtain ⟨h1, h2⟩ := List.nodup_cons.mp h
    have hx := s x List.mem_cons_self
    have i := nodup_len (m := m.erase x) h2 fun y hy => (List.mem_erase_of_ne (fun e => h1 (by rw [← e]; exact hy))).mpr (s y (List.mem_cons_of_mem _ hy))
    rw [List.length_erase_of_mem hx] at i
    have := List.length_pos_of_mem hx
    simp only [List.length_cons]
    omega
theorem T_cy {A G : Store} {c : Cell} : (A ++ (G ++ [c]))[A.length + G.length]? = some c := by
  rw [List.getElem?_append_right (by omega), List.getElem?_append_right (by omega)]
  simp
theorem T_set {A G : Store} {c c' : Cell} : (A ++ (G ++ [c])).set (A.length + G.length) c' = A ++ (G ++ [c']) := by
  rw [List.set_append_right _ _ (by omega), List.set_append_right _ _ (by omega)]
  simp
theorem walk_len (p : Pm) : ∀ (n : Nat) (seen : List Str) (l : Str), (walkC p n seen l).length ≤ n
  | 0, _, _ => by simp [walkC]
  | n + 1, seen, l => by
    unfold walkC
    split
    · simp
    · simp only [List.length_cons]
      have := walk_len p n (seen ++ [l]) (im p l)
      omega
/-- the loop of cycles_of, as the interpreter runs it -/
abbrev wF (F : Fns) : Env → Store → OutS := evSs F (.cons (.expr (.bm .add (.var 2) (.cons (.var 6) (.nil)))) (.cons (.expr (.bm .append (.var 5) (.cons (.var 6) (.nil)))) (.cons (.asg (.nm 6) (.ix (.var 1) (.var 6))) (.nil))))
abbrev wC (F : Fns) : Env → Store → Out Bool := fun ρ S => (evE F (.cmp .NotIn (.var 6) (.var 2)) ρ S).bind truO
theorem while_ok {F : Fns} {p : Pm} (hp : PmOk p) {S : Store} {d0 d4 : D} {lk : Bool} {C : Cell} {G : Store} : ∀ (n : Nat) (fuel : Nat) (seen : List Str) (l : Str) (cy : List Str), n < fuel → l ∈ p.map (·.1) → (∀ x ∈ seen, x ∈ p.map (·.1)) → seen.Nodup → p.length + 1 ≤ n + seen.length → cy.length + n < 1000 →
    ∃ l', loopW (wC F) (wF F) fuel [some d0, some (.loc S.length), some (.loc (S.length + 1)), some (.loc (S.length + 2)), some d4, some (.loc (S.length + (3 + G.length))), some (.str l)] (S ++ ([.dct lk (kd p), .set (seen.map Sum.inr), C] ++ (G ++ [.lst (sd cy)]))) =
      .nx [some d0, some (.loc S.length), some (.loc (S.length + 1)), some (.loc (S.length + 2)), some d4, some (.loc (S.length + (3 + G.length))), some (.str l')] (S ++ ([.dct lk (kd p), .set ((seen ++ walkC p n seen l).map Sum.inr), C] ++ (G ++ [.lst (sd (cy ++ walkC p n seen l))]))) := by
  intro n
  induction n with
  | zero =>
    intro fuel seen l cy hf hl hs hn hc hz
    exfalso
    have := nodup_len hn hs
    rw [List.length_map] at this
    omega
  | succ n ih =>
    intro fuel seen l cy hf hl hs hn hc hz
    obtain ⟨fuel, rfl⟩ : ∃ f, fuel = f + 1 := ⟨fuel - 1, by omega⟩
    generalize hT : S ++ ([Cell.dct lk (kd p), .set (seen.map Sum.inr), C] ++ (G ++ [.lst (sd cy)])) = T
    have g0 : T[S.length]? = some (.dct lk (kd p)) := by rw [← hT, get_app0]; rfl
    have g1 : T[S.length + 1]? = some (.set (seen.map Sum.inr)) := by rw [← hT, get_app]; rfl
    have g2 : T[S.length + (3 + G.length)]? = some (.lst (sd cy)) := by rw [← hT, get_app]; exact T_cy
    have hk : hasK (.inr l) (seen.map Sum.inr) = hasS l seen := hasK_str
    cases hc1 : hasS l seen with
    | true =>
      refine ⟨l, ?_⟩
      have e : walkC p (n + 1) seen l = [] := by unfold walkC; rw [hc1, if_pos rfl]
      rw [e, List.append_nil, List.append_nil, hT]
      unfold loopW
      have : wC F [some d0, some (.loc S.length), some (.loc (S.length + 1)), some (.loc (S.length + 2)), some d4, some (.loc (S.length + (3 + G.length))), some (.str l)] T = .ok false T := by
        simp [wC, nin_set g1, hk, hc1]
      rw [this]
      rfl
    | false =>
      have e : walkC p (n + 1) seen l = l :: walkC p n (seen ++ [l]) (im p l) := by
        show (if hasS l seen then [] else l :: walkC p n (seen ++ [l]) (im p l)) = _
        rw [hc1, if_neg Bool.false_ne_true]
      have hnl : l ∉ seen := fun z => by
        rw [hasS_iff.mpr z] at hc1
        cases hc1
      have s1 : seen.length < 100 := by
        have := nodup_len hn hs
        rw [List.length_map] at this
        have := hp.few
        omega
      have ea : addK (.inr l) (seen.map Sum.inr) = (seen ++ [l]).map (Sum.inr : Str → Key) := by
        unfold addK
        rw [hk, hc1, if_neg Bool.false_ne_true]
        simp
      have t1 : T.set (S.length + 1) (.set ((seen ++ [l]).map Sum.inr)) = S ++ ([Cell.dct lk (kd p), .set ((seen ++ [l]).map Sum.inr), C] ++ (G ++ [.lst (sd cy)])) := by
        rw [← hT, set_new]
        rfl
      generalize hT1 : S ++ ([Cell.dct lk (kd p), .set ((seen ++ [l]).map Sum.inr), C] ++ (G ++ [.lst (sd cy)])) = T1 at t1
      have g3 : T1[S.length + (3 + G.length)]? = some (.lst (sd cy)) := by rw [← hT1, get_app]; exact T_cy
      have t2 : T1.set (S.length + (3 + G.length)) (.lst (sd cy ++ [.str l])) = S ++ ([Cell.dct lk (kd p), .set ((seen ++ [l]).map Sum.inr), C] ++ (G ++ [.lst (sd (cy ++ [l]))])) := by
        rw [← hT1, set_new]
        have := T_set (A := [Cell.dct lk (kd p), .set ((seen ++ [l]).map Sum.inr), C]) (G := G) (c := .lst (sd cy)) (c' := .lst (sd cy ++ [.str l]))
        simp only [List.length_cons, List.length_nil, Nat.zero_add, Nat.reduceAdd] at this
        rw [this]
        simp [sd]
      generalize hT2 : S ++ ([Cell.dct lk (kd p), .set ((seen ++ [l]).map Sum.inr), C] ++ (G ++ [.lst (sd (cy ++ [l]))])) = T2 at t2
      have g4 : T2[S.length]? = some (.dct lk (kd p)) := by rw [← hT2, get_app0]; rfl
      have b1 := addD_ok (x := l) g1 (by rw [List.length_map]; omega)
      rw [ea, t1] at b1
      have b2 := appD_ok (d := .str l) g3 (by
        have : sizeLine = 16777216 := sizeLine_eq
        simp only [sd, List.length_map]
        omega)
      rw [t2] at b2
      have c1 : wC F [some d0, some (.loc S.length), some (.loc (S.length + 1)), some (.loc (S.length + 2)), some d4, some (.loc (S.length + (3 + G.length))), some (.str l)] T = .ok true T := by
        simp [wC, nin_set g1, hk, hc1]
      have c2 : wF F [some d0, some (.loc S.length), some (.loc (S.length + 1)), some (.loc (S.length + 2)), some d4, some (.loc (S.length + (3 + G.length))), some (.str l)] T = .nx [some d0, some (.loc S.length), some (.loc (S.length + 1)), some (.loc (S.length + 2)), some d4, some (.loc (S.length + (3 + G.length))), some (.str (im p l))] T2 := by
        simp [wF, addK_ok g1, b1, appK_ok g3, b2, g4, look_kd hl]
      obtain ⟨l', hw⟩ := ih fuel (seen ++ [l]) (im p l) (cy ++ [l]) (by omega) (hp.into l hl) (fun x hx => by
        rcases List.mem_append.mp hx with hx | hx
        · exact hs x hx
        · rw [List.mem_singleton.mp hx]; exact hl) (by
        rw [List.nodup_append]
        exact ⟨hn, by simp, fun a ha b hb e => by rw [List.mem_singleton.mp hb] at e; exact hnl (e ▸ ha)⟩) (by rw [List.length_append, List.length_singleton]; omega) (by rw [List.length_append, List.length_singleton]; omega)
      refine ⟨l', ?_⟩
      unfold loopW
      rw [c1, bindS_ok, if_pos rfl, c2]
      show loopW (wC F) (wF F) fuel _ T2 = _
      rw [← hT2, hw, e]
      simp
theorem walk_nd {p : Pm} (hp : PmOk p) : ∀ (n : Nat) (seen : List Str) (l : Str), l ∈ p.map (·.1) → seen.Nodup → (seen ++ walkC p n seen l).Nodup ∧ ∀ x ∈ walkC p n seen l, x ∈ p.map (·.1)
  | 0, seen, l, _, hn => by simpa [walkC] using hn
  | n + 1, seen, l, hl, hn => by
    show (seen ++ (if hasS l seen then [] else l :: walkC p n (seen ++ [l]) (im p l))).Nodup ∧ ∀ x ∈ (if hasS l seen then [] else l :: walkC p n (seen ++ [l]) (im p l)), x ∈ p.map (·.1)
    cases h : hasS l seen with
    | true => simpa using hn
    | false =>
      have hnl : l ∉ seen := fun z => by
        rw [hasS_iff.mpr z] at h
        cases h
      have nd : (seen ++ [l]).Nodup := by
        rw [List.nodup_append]
        exact ⟨hn, by simp, fun a ha b hb e => by rw [List.mem_singleton.mp hb] at e; exact hnl (e ▸ ha)⟩
      obtain ⟨i1, i2⟩ := walk_nd hp n (seen ++ [l]) (im p l) (hp.into l hl) nd
      rw [if_neg Bool.false_ne_true]
      refine ⟨by simpa using i1, fun x hx => ?_⟩
      rcases List.mem_cons.mp hx with rfl | hx
      · exact hl
      · exact i2 x hx
def cd (cs : List (List Str)) : List D := cs.map fun c => .tup (sd c)
theorem fw : ∀ n, n < 1000000 → n < fuelW := fun n h => by
  unfold fuelW
  omega
/-- one start -/
theorem start_ok {F : Fns} {p : Pm} (hp : PmOk p) {S : Store} {d0 : D} {o4 o5 o6 : Option D} {lk : Bool} {G : Store} {seen : List Str} {acc : List (List Str)} {s : Str} (hs : s ∈ p.map (·.1)) (hn : seen.Nodup) (hk : ∀ x ∈ seen, x ∈ p.map (·.1)) (ha : acc.length < 1000) :
    ∃ l' w, w = walkC p (p.length + 1) seen s ∧ (asgT F (.nm 4) (.str s) [some d0, some (.loc S.length), some (.loc (S.length + 1)), some (.loc (S.length + 2)), o4, o5, o6] (S ++ ([.dct lk (kd p), .set (seen.map Sum.inr), .lst (cd acc)] ++ G))).bindS (fun ρ' S' => evSs F (.cons (.asg (.nm 5) (.lst (.nil))) (.cons (.asg (.nm 6) (.var 4)) (.cons (.whl (.cmp .NotIn (.var 6) (.var 2)) (.cons (.expr (.bm .add (.var 2) (.cons (.var 6) (.nil)))) (.cons (.expr (.bm .append (.var 5) (.cons (.var 6) (.nil)))) (.cons (.asg (.nm 6) (.ix (.var 1) (.var 6))) (.nil))))) (.cons (.ife (.cmp .Gt (.bf .len (.cons (.var 5) (.nil))) (.con (.int 1))) (.cons (.expr (.bm .append (.var 3) (.cons (.bf .tuple (.cons (.var 5) (.nil))) (.nil)))) (.nil)) (.nil)) (.nil))))) ρ' S') =
      .nx [some d0, some (.loc S.length), some (.loc (S.length + 1)), some (.loc (S.length + 2)), some (.str s), some (.loc (S.length + (3 + G.length))), some (.str l')] (S ++ ([.dct lk (kd p), .set ((seen ++ w).map Sum.inr), .lst (cd (if 1 < w.length then acc ++ [w] else acc))] ++ (G ++ [.lst (sd w)]))) := by
  obtain ⟨l', hw⟩ := while_ok (F := F) hp (S := S) (d0 := d0) (d4 := .str s) (lk := lk) (C := .lst (cd acc)) (G := G) (p.length + 1) fuelW seen s [] (fw _ (by have := hp.few; omega)) hs hk hn (by omega) (by have := hp.few; simp only [List.length_nil]; omega)
  generalize hW : walkC p (p.length + 1) seen s = w at hw
  refine ⟨l', w, rfl, ?_⟩
  have e0 : (S ++ ([Cell.dct lk (kd p), .set (seen.map Sum.inr), .lst (cd acc)] ++ G)).length = S.length + (3 + G.length) := by simp; omega
  have e1 : S ++ ([Cell.dct lk (kd p), .set (seen.map Sum.inr), .lst (cd acc)] ++ G) ++ [.lst []] = S ++ ([.dct lk (kd p), .set (seen.map Sum.inr), .lst (cd acc)] ++ (G ++ [.lst (sd [])])) := by simp [sd]
  rw [List.nil_append] at hw
  have hw2 : evS F (.whl (.cmp .NotIn (.var 6) (.var 2)) (.cons (.expr (.bm .add (.var 2) (.cons (.var 6) (.nil)))) (.cons (.expr (.bm .append (.var 5) (.cons (.var 6) (.nil)))) (.cons (.asg (.nm 6) (.ix (.var 1) (.var 6))) (.nil))))) [some d0, some (.loc S.length), some (.loc (S.length + 1)), some (.loc (S.length + 2)), some (.str s), some (.loc (S.length + (3 + G.length))), some (.str s)] (S ++ ([.dct lk (kd p), .set (seen.map Sum.inr), .lst (cd acc)] ++ (G ++ [.lst (sd [])]))) = _ := hw
  generalize hT : S ++ ([Cell.dct lk (kd p), .set (seen.map Sum.inr), .lst (cd acc)] ++ (G ++ [.lst (sd [])])) = T at e1 hw2
  generalize hU : S ++ ([Cell.dct lk (kd p), .set ((seen ++ w).map Sum.inr), .lst (cd acc)] ++ (G ++ [.lst (sd w)])) = U at hw2
  have g5 : U[S.length + (3 + G.length)]? = some (.lst (sd w)) := by rw [← hU, get_app]; exact T_cy
  have g3 : U[S.length + 2]? = some (.lst (cd acc)) := by rw [← hU, get_app]; rfl
  have ap := appD_ok (d := .tup (sd w)) g3 (by
    have : sizeLine = 16777216 := sizeLine_eq
    simp only [cd, List.length_map]
    omega)
  have t1 : U.set (S.length + 2) (.lst (cd acc ++ [.tup (sd w)])) = S ++ ([.dct lk (kd p), .set ((seen ++ w).map Sum.inr), .lst (cd (acc ++ [w]))] ++ (G ++ [.lst (sd w)])) := by
    rw [← hU, set_new]
    simp [cd]
  rw [t1] at ap
  have lw : (sd w).length = w.length := by simp [sd]
  generalize S ++ ([Cell.dct lk (kd p), .set (seen.map Sum.inr), .lst (cd acc)] ++ G) = T0 at e0 e1 ⊢
  by_cases c : 1 < w.length
  · rw [if_pos c]
    have c' : (1 : Int) < (w.length : Int) := by omega
    simp [e0, e1, hw2, len_loc g5, lw, c', appK_ok g3, tup_loc g5, ap]
  · rw [if_neg c, hU]
    have c' : ¬ (1 : Int) < (w.length : Int) := by omega
    simp [e0, e1, hw2, len_loc g5, lw, c']
theorem st_forK_ok {F : Fns} {t : IT} {i n : Nat} {bb : ISs} {ρ : Env} {S : Store} {kvs : List (Key × D)} (h : ρ[i]? = some (some (.loc n))) (h2 : S[n]? = some (.dct false kvs)) :
    evS F (.forK t i bb) ρ S = unlock n kvs (loopF (.dct n kvs) (fun x ρ S => (asgT F t x ρ S).bindS fun ρ' S' => evSs F bb ρ' S') (kvs.map fun p => ofKey p.1) ρ (lockS n kvs S)) := by
  simp only [evS, h, h2]
theorem ofk (p : Pm) : ((kd p).map fun q => ofKey q.1) = (p.map (·.1)).map D.str := by
  unfold kd
  rw [List.map_map, List.map_map]
  rfl
theorem cycles_ok {Γ : Nat → Option FDef} {k : Nat} (h : Γ i_cycles_of = some f_cycles_of) {p : Pm} (hp : PmOk p) (S : Store) :
    callN Γ (k + 1) i_cycles_of [.tup (pd p)] S = .ok (.tup (cd (cyc p (p.map (·.1)) []))) S := by
  rw [callN_eq h rfl]
  have key := loopF_all (src := .dct S.length (kd p)) (f := fun x ρ S => (asgT (callN Γ k) (.nm 4) x ρ S).bindS (fun ρ' S' => evSs (callN Γ k) (.cons (.asg (.nm 5) (.lst (.nil))) (.cons (.asg (.nm 6) (.var 4)) (.cons (.whl (.cmp .NotIn (.var 6) (.var 2)) (.cons (.expr (.bm .add (.var 2) (.cons (.var 6) (.nil)))) (.cons (.expr (.bm .append (.var 5) (.cons (.var 6) (.nil)))) (.cons (.asg (.nm 6) (.ix (.var 1) (.var 6))) (.nil))))) (.cons (.ife (.cmp .Gt (.bf .len (.cons (.var 5) (.nil))) (.con (.int 1))) (.cons (.expr (.bm .append (.var 3) (.cons (.bf .tuple (.cons (.var 5) (.nil))) (.nil)))) (.nil)) (.nil)) (.nil))))) ρ' S'))
    (xs := (kd p).map fun q => ofKey q.1) (ρ := [some (.tup (pd p)), some (.loc S.length), some (.loc (S.length + 1)), some (.loc (S.length + 2)), none, none, none]) (S := S ++ ([.dct true (kd p), .set [], .lst []] ++ []))
    (fun i ρ S' => ∃ o4 o5 o6 G seen acc, ρ = [some (.tup (pd p)), some (.loc S.length), some (.loc (S.length + 1)), some (.loc (S.length + 2)), o4, o5, o6] ∧ S' = S ++ ([.dct true (kd p), .set (seen.map Sum.inr), .lst (cd acc)] ++ G) ∧ acc ++ cyc p ((p.map (·.1)).drop i) seen = cyc p (p.map (·.1)) [] ∧ seen.Nodup ∧ (∀ x ∈ seen, x ∈ p.map (·.1)) ∧ acc.length ≤ i)
    ⟨none, none, none, [], [], [], rfl, rfl, rfl, List.nodup_nil, (fun _ z => by cases z), Nat.le_refl _⟩
    (fun i x ρ S' ⟨o4, o5, o6, G, seen, acc, e1, e2, e3, e4, e5, e6⟩ hi => ?_) (fun ρ S' ⟨o4, o5, o6, G, seen, acc, e1, e2, _⟩ => ?_)
  · obtain ⟨ρ', S', e0, o4, o5, o6, G, seen, acc, e1, e2, e3, _⟩ := key
    rw [ofk] at e0 e3
    rw [List.drop_of_length_le (by simp)] at e3
    have e3 : acc = cyc p (p.map (·.1)) [] := by simpa [cyc] using e3
    subst e1 e2 e3
    have s1 : S ++ [Cell.dct false (kd p)] ++ [.set []] ++ [.lst []] = S ++ [Cell.dct false (kd p), .set [], .lst []] := by simp
    have e5 : evS (callN Γ k) (.forK (.nm 4) 1 (.cons (.asg (.nm 5) (.lst (.nil))) (.cons (.asg (.nm 6) (.var 4)) (.cons (.whl (.cmp .NotIn (.var 6) (.var 2)) (.cons (.expr (.bm .add (.var 2) (.cons (.var 6) (.nil)))) (.cons (.expr (.bm .append (.var 5) (.cons (.var 6) (.nil)))) (.cons (.asg (.nm 6) (.ix (.var 1) (.var 6))) (.nil))))) (.cons (.ife (.cmp .Gt (.bf .len (.cons (.var 5) (.nil))) (.con (.int 1))) (.cons (.expr (.bm .append (.var 3) (.cons (.bf .tuple (.cons (.var 5) (.nil))) (.nil)))) (.nil)) (.nil)) (.nil))))))
        [some (.tup (pd p)), some (.loc S.length), some (.loc (S.length + 1)), some (.loc (S.length + 2)), none, none, none] (S ++ [Cell.dct false (kd p), .set [], .lst []]) =
        .nx [some (.tup (pd p)), some (.loc S.length), some (.loc (S.length + 1)), some (.loc (S.length + 2)), o4, o5, o6] (S ++ ([Cell.dct false (kd p), .set (seen.map Sum.inr), .lst (cd (cyc p (p.map (·.1)) []))] ++ G)) := by
      have l1 : lockS S.length (kd p) (S ++ [Cell.dct false (kd p), .set [], .lst []]) = S ++ ([.dct true (kd p), .set [], .lst []] ++ []) := by
        unfold lockS
        rw [set_new0]
        rfl
      have g0 : (S ++ [Cell.dct false (kd p), .set [], .lst []])[S.length]? = some (.dct false (kd p)) := by rw [get_app0]; rfl
      rw [st_forK_ok rfl g0, l1, ofk, e0]
      show unlockO S.length (kd p) _ _ = _
      unfold unlockO
      rw [if_pos (by rw [get_app0]; rfl), set_new0]
      rfl
    generalize hU : S ++ ([Cell.dct false (kd p), .set (seen.map Sum.inr), .lst (cd (cyc p (p.map (·.1)) []))] ++ G) = U at e5
    have g2 : U[S.length + 2]? = some (.lst (cd (cyc p (p.map (·.1)) []))) := by rw [← hU, get_app]; rfl
    have gl : gc S (.tup (cd (cyc p (p.map (·.1)) []))) U = .ok (.tup (cd (cyc p (p.map (·.1)) []))) S := by
      rw [← hU]
      refine gc_drop ?_
      rw [cl_tup, cls_mem]
      intro x hx
      obtain ⟨c, _, rfl⟩ := List.mem_map.mp hx
      rw [cl_tup, cls_mem]
      intro y hy
      obtain ⟨z, _, rfl⟩ := List.mem_map.mp hy
      rfl
    simp [f_cycles_of, dict_pd hp.nd, e5, tup_loc g2, gl]
  · subst e1 e2
    rw [ofk, List.getElem?_map] at hi
    obtain ⟨s, hs, rfl⟩ := Option.map_eq_some_iff.mp hi
    refine ⟨decide_eq_true (by rw [get_app0]; rfl), ?_⟩
    have hmem := List.mem_of_getElem? hs
    have hlen := (List.getElem?_eq_some_iff.mp hs).1
    have hd : (p.map (·.1)).drop i = s :: (p.map (·.1)).drop (i + 1) := by
      obtain ⟨h1, h2⟩ := List.getElem?_eq_some_iff.mp hs
      rw [← h2]
      exact List.drop_eq_getElem_cons h1
    obtain ⟨l', w, hw, hr⟩ := start_ok (F := callN Γ k) hp (S := S) (d0 := .tup (pd p)) (o4 := o4) (o5 := o5) (o6 := o6) (lk := true) (G := G) (seen := seen) (acc := acc) hmem e4 e5 (by have := hp.few; simp at hlen; omega)
    refine ⟨_, _, .inl hr, _, _, _, G ++ [.lst (sd w)], seen ++ w, _, rfl, rfl, ?_, ?_, ?_, ?_⟩
    · rw [← e3, hd]
      show _ = acc ++ (if 1 < (walkC p (p.length + 1) seen s).length then walkC p (p.length + 1) seen s :: cyc p ((p.map (·.1)).drop (i + 1)) (seen ++ walkC p (p.length + 1) seen s) else cyc p ((p.map (·.1)).drop (i + 1)) (seen ++ walkC p (p.length + 1) seen s))
      rw [← hw]
      by_cases c : 1 < w.length
      · rw [if_pos c, if_pos c]
        simp
      · rw [if_neg c, if_neg c]
    · rw [hw]
      exact (walk_nd hp _ _ _ hmem e4).1
    · intro x hx
      rcases List.mem_append.mp hx with hx | hx
      · exact e5 x hx
      · rw [hw] at hx
        exact (walk_nd hp _ _ _ hmem e4).2 x hx
    · by_cases c : 1 < w.length
      · rw [if_pos c, List.length_append, List.length_singleton]; omega
      · rw [if_neg c]; omega
  · subst e1 e2
    exact decide_eq_true (by rw [get_app0]; rfl)
end Iv

set_option maxRecDepth 100000
namespace Iv
open PySem
theorem beq_str (a b : Str) : (a == b) = decide (a = b) := by
  by_cases h : a = b
  · subst h
    simp
  · rw [decide_eq_false h]
    exact beq_eq_false_iff_ne.mpr h
@[simp] theorem eq_str {a b : Str} {S : Store} : cmpD .Eq (.str a) (.str b) S = some (decide (a = b)) := by
  show eqD (.str a) (.str b) S = _
  unfold eqD
  show some (PyData.eqv (.str a) (.str b)) = _
  rw [← beq_str]
  rfl
@[simp] theorem ne_str {a b : Str} {S : Store} : cmpD .NotEq (.str a) (.str b) S = some (!decide (a = b)) := by
  show (cmpD .Eq (.str a) (.str b) S).map not = _
  rw [eq_str]
  rfl
def mv (q : Str × Str) : Bool := !decide (q.1 = q.2) && !decide (q.1 = "")
theorem moved_ok {F : Fns} {p : Pm} (hp : p.length < 1000) {S : Store} {o1 o2 o3 o4 : Option D} {z : IE} (hz : ∀ ρ S, evE F z ρ S = .ok (.str "") S) :
    evE F (.lc (.var 2) (.tup (.cons (.nm 2) (.cons (.nm 3) (.nil)))) (.val (.var 0)) (.some (.and (.cmp .NotEq (.var 2) (.var 3)) (.one (.cmp .NotEq (.var 2) z))))) [some (.tup (pd p)), o1, o2, o3, o4] S =
      .ok (.loc S.length) (S ++ [.lst (sd ((p.filter mv).map (·.1)))]) := by
  have h := loopC_pure (src := .free) (f := turnC F (.var 2) (.tup (.cons (.nm 2) (.cons (.nm 3) (.nil)))) (.some (.and (.cmp .NotEq (.var 2) (.var 3)) (.one (.cmp .NotEq (.var 2) z)))) [some (.tup (pd p)), o1, o2, o3, o4]) (xs := pd p) (S := S)
    (fun x => match x with | .tup [.str a, .str b] => if mv (a, b) then some (.str a) else none | _ => none) (by simp [pd]; omega) (fun _ => rfl) (fun x hx acc => ?_) (fun x hx d hd => ?_)
  · have e : (pd p).filterMap (fun x => match x with | .tup [.str a, .str b] => if mv (a, b) then some (.str a) else none | _ => none) = sd ((p.filter mv).map (·.1)) := by
      clear h hp
      induction p with
      | nil => rfl
      | cons q p ih =>
        show List.filterMap _ (.tup [.str q.1, .str q.2] :: pd p) = _
        rw [List.filterMap_cons, List.filter_cons]
        cases hq : mv q with
        | true =>
          have : mv (q.1, q.2) = true := hq
          simp only [this, if_true, ih]
          rfl
        | false =>
          have : mv (q.1, q.2) = false := hq
          simp only [this, Bool.false_eq_true, if_false, ih]
    rw [e] at h
    rw [ev_lc]
    simp [walkOf, seqOf, srcOf, h]
  · obtain ⟨q, _, rfl⟩ := List.mem_map.mp hx
    refine ⟨[], ?_⟩
    by_cases c1 : q.1 = q.2 <;> by_cases c2 : q.1 = "" <;> simp [turnC, bindT, bindTs, slotsT, slotsTs, wipeE, evC, hz, c1, c2, mv, tru]
  · obtain ⟨q, _, rfl⟩ := List.mem_map.mp hx
    by_cases c1 : mv (q.1, q.2) = true
    · simp only [c1, if_true] at hd
      cases hd
      rfl
    · simp only [c1, if_false] at hd
      cases hd
theorem mapO_sd {S : Store} {n : Nat} : ∀ c : List Str, mapO (toPy S n) (sd c) = some (c.map PyData.str)
  | [] => rfl
  | x :: c => by
    have e : toPy S n (.str x) = some (.str x) := by cases n <;> rfl
    have i := mapO_sd (S := S) (n := n) c
    unfold sd at i ⊢
    simp only [List.map_cons, mapO, e, i]
theorem any_sd {x : Str} : ∀ c : List Str, ((c.map PyData.str).any fun z => PyData.eqv z (.str x)) = hasS x c
  | [] => rfl
  | y :: c => by
    show (PyData.eqv (.str y) (.str x) || (c.map PyData.str).any fun z => PyData.eqv z (.str x)) = (decide (y = x) || hasS x c)
    rw [any_sd c, ← beq_str]
    rfl
@[simp] theorem in_tup {x : Str} {c : List Str} {S : Store} : cmpD .In (.str x) (.tup (sd c)) S = some (hasS x c) := by
  show inL (.str x) (sd c) S = _
  unfold inL
  rw [mapO_sd]
  show some ((c.map PyData.str).any fun z => PyData.eqv z (.str x)) = _
  rw [any_sd]
@[simp] theorem nin_tup {x : Str} {c : List Str} {S : Store} : cmpD .NotIn (.str x) (.tup (sd c)) S = some (!hasS x c) := by
  show (cmpD .In (.str x) (.tup (sd c)) S).map not = _
  rw [in_tup]
  rfl
theorem strs_sd : ∀ c : List Str, strs? (sd c) = some c
  | [] => rfl
  | x :: c => by
    show (strs? (sd c)).map (x :: ·) = _
    rw [strs_sd c]
    rfl
def freeG (x : D) : Option D := match x with
  | .tup ds => match strs? ds with
    | some c => if hasS "" c then none else some (.tup ds)
    | none => none
  | _ => none
theorem freeG_sd (c : List Str) : freeG (.tup (sd c)) = if hasS "" c then none else some (.tup (sd c)) := by
  simp only [freeG, strs_sd]
theorem free_ok {F : Fns} {cs : List (List Str)} (hc : cs.length < 1000) {S : Store} {e : IE} {ρ0 : Env} {v : Nat} (hv : v < ρ0.length) {z : IE} (hz : ∀ ρ S, evE F z ρ S = .ok (.str "") S) (he : evE F e ρ0 S = .ok (.tup (cd cs)) S) :
    evE F (.lc (.var v) (.nm v) (.val e) (.some (.cmp .NotIn z (.var v)))) ρ0 S = .ok (.loc S.length) (S ++ [.lst (cd (cs.filter fun c => !hasS "" c))]) := by
  have h := loopC_pure (src := .free) (f := turnC F (.var v) (.nm v) (.some (.cmp .NotIn z (.var v))) ρ0) (xs := cd cs) (S := S) freeG (by simp [cd]; omega) (fun _ => rfl) (fun x hx acc => ?_) (fun x hx d hd => ?_)
  · have e2 : (cd cs).filterMap freeG = cd (cs.filter fun c => !hasS "" c) := by
      clear h hc he
      induction cs with
      | nil => rfl
      | cons c cs ih =>
        show List.filterMap freeG (.tup (sd c) :: cd cs) = _
        rw [List.filterMap_cons, List.filter_cons, freeG_sd]
        cases hasS "" c with
        | true => simpa using ih
        | false => simpa [cd] using ih
    rw [e2] at h
    rw [ev_lc, evi_val, he]
    simp [walkOf, seqOf, srcOf, h]
  · obtain ⟨c, _, rfl⟩ := List.mem_map.mp hx
    refine ⟨[], ?_⟩
    have hl : v < (wipeE ρ0 [v]).length := by simpa [wipeE] using hv
    have g : ((wipeE ρ0 [v]).set v (some (.tup (sd c))))[v]? = some (some (.tup (sd c))) := List.getElem?_set_self hl
    rw [freeG_sd]
    cases hh : hasS "" c <;> simp [turnC, bindT, slotsT, hl, evC, hz, g, hh, tru]
  · obtain ⟨c, _, rfl⟩ := List.mem_map.mp hx
    rw [freeG_sd] at hd
    cases hh : hasS "" c with
    | true => rw [hh] at hd; cases hd
    | false =>
      rw [hh, if_neg Bool.false_ne_true] at hd
      cases hd
      rw [cl_tup, cls_mem]
      intro y hy
      obtain ⟨z, _, rfl⟩ := List.mem_map.mp hy
      rfl
def keys (p : Pm) : List Str := p.map (·.1)
def gapd (p : Pm) : Nat := (p.filter mv).length + ((cyc p (p.map (·.1)) []).filter fun c => !hasS "" c).length
theorem cyc_len (p : Pm) : ∀ (l seen : List Str), (cyc p l seen).length ≤ l.length
  | [], _ => Nat.le_refl _
  | s :: l, seen => by
    unfold cyc
    split
    · have := cyc_len p l (seen ++ walkC p (p.length + 1) seen s)
      simp only [List.length_cons]
      omega
    · have := cyc_len p l (seen ++ walkC p (p.length + 1) seen s)
      simp only [List.length_cons]
      omega
theorem gap_ok {Γ : Nat → Option FDef} {k : Nat} (h : Γ i_gap_distance = some f_gap_distance) (h2 : Γ i_cycles_of = some f_cycles_of) {p : Pm} (hp : PmOk p) (S : Store) :
    callN Γ (k + 2) i_gap_distance [.tup (pd p)] S = .ok (.int (gapd p)) S := by
  rw [callN_eq h rfl]
  have m := moved_ok (F := callN Γ (k + 1)) (p := p) (by have := hp.few; omega) (S := S) (o1 := none) (o2 := none) (o3 := none) (o4 := none) (z := .glo "GAP" (.str "")) (fun _ _ => rfl)
  have c := fun S' => cycles_ok (k := k) h2 hp S'
  have cl : (cyc p (p.map (·.1)) []).length < 1000 := by
    have := cyc_len p (p.map (·.1)) []
    have := hp.few
    simp only [List.length_map] at *
    omega
  have f := free_ok (F := callN Γ (k + 1)) cl (S := S ++ [.lst (sd ((p.filter mv).map (·.1)))]) (e := .call i_cycles_of (.cons (.var 0) (.nil))) (ρ0 := [some (.tup (pd p)), some (.loc S.length), none, none, none]) (v := 4) (by simp) (z := .glo "GAP" (.str "")) (fun _ _ => rfl) (by simp [c])
  generalize hT : S ++ [Cell.lst (sd ((p.filter mv).map (·.1)))] = T at f m
  have g1 : T[S.length]? = some (.lst (sd ((p.filter mv).map (·.1)))) := by rw [← hT, get_app0]; rfl
  have l1 := len_loc g1
  have l2 := len_loc (S := T ++ [.lst (cd ((cyc p (p.map (·.1)) []).filter fun c => !hasS "" c))]) (n := T.length) (xs := cd ((cyc p (p.map (·.1)) []).filter fun c => !hasS "" c)) (by rw [get_app0]; rfl)
  have gd : ∀ i : Int, gc S (.int i) (T ++ [.lst (cd ((cyc p (p.map (·.1)) []).filter fun c => !hasS "" c))]) = .ok (.int i) S := fun i => by
    rw [← hT, List.append_assoc]
    exact gc_drop rfl
  have e1 : (sd ((p.filter mv).map (·.1))).length = (p.filter mv).length := by simp [sd]
  have e2 : (cd ((cyc p (p.map (·.1)) []).filter fun c => !hasS "" c)).length = ((cyc p (p.map (·.1)) []).filter fun c => !hasS "" c).length := by simp [cd]
  rw [e1] at l1
  rw [e2] at l2
  generalize T ++ [Cell.lst (cd ((cyc p (p.map (·.1)) []).filter fun c => !hasS "" c))] = U at f l2 gd
  simp only [f_gap_distance]
  simp [m, f, l1, l2, gd, gapd]
@[simp] theorem eq_int {a b : Int} {S : Store} : cmpD .Eq (.int a) (.int b) S = some (decide (a = b)) := by
  show eqD (.int a) (.int b) S = _
  unfold eqD
  show some (a == b) = _
  congr 1
theorem ints_map : ∀ l : List Int, ints? (l.map D.int) = some l
  | [] => rfl
  | x :: l => by
    show (ints? (l.map D.int)).map (x :: ·) = _
    rw [ints_map l]
    rfl
theorem sum_loc {S : Store} {n : Nat} {l : List Int} (h : S[n]? = some (.lst (l.map D.int))) : bfD .sum [.loc n] S = .ok (.int l.sum) S := by simp [bfD, listOf, lstAt, h, ints_map]
def lenG (x : D) : Option D := match x with
  | .tup ds => some (.int (ds.length - 1))
  | _ => none
def odds (cs : List (List Str)) : Int := (cs.map fun c => (c.length : Int) - 1).sum
theorem lens_ok {F : Fns} {cs : List (List Str)} (hc : cs.length < 1000) {S : Store} {e : IE} {ρ0 : Env} {v : Nat} (hv : v < ρ0.length) (he : evE F e ρ0 S = .ok (.tup (cd cs)) S) :
    evE F (.lc (.bin .Sub (.bf .len (.cons (.var v) (.nil))) (.con (.int 1))) (.nm v) (.val e) .none) ρ0 S = .ok (.loc S.length) (S ++ [.lst ((cs.map fun c => (c.length : Int) - 1).map D.int)]) := by
  have h := loopC_pure (src := .free) (f := turnC F (.bin .Sub (.bf .len (.cons (.var v) (.nil))) (.con (.int 1))) (.nm v) .none ρ0) (xs := cd cs) (S := S) lenG (by simp [cd]; omega) (fun _ => rfl) (fun x hx acc => ?_) (fun x hx d hd => ?_)
  · have e2 : (cd cs).filterMap lenG = (cs.map fun c => (c.length : Int) - 1).map D.int := by
      clear h hc he
      induction cs with
      | nil => rfl
      | cons c cs ih =>
        show List.filterMap lenG (.tup (sd c) :: cd cs) = _
        rw [List.filterMap_cons]
        simp [lenG, ih, sd]
    rw [e2] at h
    rw [ev_lc, evi_val, he]
    simp only [bind_ok, walkOf, seqOf, srcOf, h]
  · obtain ⟨c, _, rfl⟩ := List.mem_map.mp hx
    refine ⟨[], ?_⟩
    have hl : v < (wipeE ρ0 [v]).length := by simpa [wipeE] using hv
    have g : ((wipeE ρ0 [v]).set v (some (.tup (sd c))))[v]? = some (some (.tup (sd c))) := List.getElem?_set_self hl
    simp [turnC, bindT, slotsT, hl, evC, g, lenG]
  · obtain ⟨c, _, rfl⟩ := List.mem_map.mp hx
    cases hd
    rfl

end Iv

set_option maxRecDepth 100000
namespace Iv
open PySem
/-! ### inversions -/
def inv : List Str → Nat
  | [] => 0
  | x :: r => r.countP (fun y => ltStr y x) + inv r
theorem lt_tri {x y : Str} (h : x ≠ y) : (ltStr x y = true ∧ ltStr y x = false) ∨ (ltStr x y = false ∧ ltStr y x = true) := by
  unfold ltStr
  by_cases h1 : x.cps.toList < y.cps.toList
  · left
    exact ⟨decide_eq_true h1, decide_eq_false fun h2 => List.lt_irrefl _ (List.lt_trans h1 h2)⟩
  · right
    refine ⟨decide_eq_false h1, decide_eq_true ?_⟩
    rcases List.le_total x.cps.toList y.cps.toList with z | z
    · rcases List.le_iff_lt_or_eq.mp z with z | z
      · exact absurd z h1
      · exact absurd (str_ext z) h
    · rcases List.le_iff_lt_or_eq.mp z with z | z
      · exact z
      · exact absurd (str_ext z.symm) h
/-- two neighbours exchanged -/
theorem inv_adj {x y : Str} (h : x ≠ y) : ∀ a b : List Str, (inv (a ++ x :: y :: b) + inv (a ++ y :: x :: b)) % 2 = 1
  | [], b => by
    show (((y :: b).countP (fun z => ltStr z x) + (b.countP (fun z => ltStr z y) + inv b)) + ((x :: b).countP (fun z => ltStr z y) + (b.countP (fun z => ltStr z x) + inv b))) % 2 = 1
    rw [List.countP_cons, List.countP_cons]
    rcases lt_tri h with ⟨h1, h2⟩ | ⟨h1, h2⟩
    · rw [h1, h2]
      simp only [Bool.false_eq_true, if_false, if_true]
      omega
    · rw [h1, h2]
      simp only [Bool.false_eq_true, if_false, if_true]
      omega
  | c :: a, b => by
    have i := inv_adj h a b
    show (((a ++ x :: y :: b).countP (fun z => ltStr z c) + inv (a ++ x :: y :: b)) + ((a ++ y :: x :: b).countP (fun z => ltStr z c) + inv (a ++ y :: x :: b))) % 2 = 1
    have e : (a ++ y :: x :: b).countP (fun z => ltStr z c) = (a ++ x :: y :: b).countP (fun z => ltStr z c) := ((List.Perm.swap x y b).append_left a).countP_eq _
    rw [e]
    omega
/-- one moved past others -/
theorem inv_move {x : Str} : ∀ (m a b : List Str), x ∉ m → (inv (a ++ x :: (m ++ b)) + inv (a ++ (m ++ x :: b)) + m.length) % 2 = 0
  | [], a, b, _ => by
    show (inv (a ++ x :: b) + inv (a ++ x :: b) + 0) % 2 = 0
    omega
  | c :: m, a, b, h => by
    have hc : x ≠ c := fun e => h (e ▸ List.mem_cons_self)
    have i1 := inv_adj hc a (m ++ b)
    have i2 := inv_move m (a ++ [c]) b fun z => h (List.mem_cons_of_mem _ z)
    simp only [List.append_assoc, List.cons_append, List.nil_append] at i2
    show (inv (a ++ x :: c :: (m ++ b)) + inv (a ++ c :: (m ++ x :: b)) + (m.length + 1)) % 2 = 0
    omega
/-- any two exchanged -/
theorem inv_swap {x y : Str} {m a b : List Str} (hxy : x ≠ y) (hx : x ∉ m) (hy : y ∉ m) : (inv (a ++ x :: (m ++ y :: b)) + inv (a ++ y :: (m ++ x :: b))) % 2 = 1 := by
  have i1 := inv_move (x := x) (m ++ [y]) a b (by simp [hx, hxy])
  have i2 := inv_move (x := y) m a (x :: b) hy
  simp only [List.append_assoc, List.cons_append, List.nil_append, List.length_append, List.length_singleton] at i1
  omega
end Iv

set_option maxRecDepth 100000
namespace Iv
open PySem
/-- a key's place in the list -/
theorem split_key {a : Str} : ∀ {p : Pm}, a ∈ p.map (·.1) → ∃ A x B, p = A ++ (a, x) :: B ∧ a ∉ A.map (·.1) ∧ im p a = x
  | [], h => by simp at h
  | (k, v) :: p, h => by
    by_cases e : k = a
    · subst e
      refine ⟨[], v, p, rfl, by simp, ?_⟩
      show ((if k = k then some v else lookA k p)).getD k = v
      rw [if_pos rfl]
      rfl
    · obtain ⟨A, x, B, h1, h2, h3⟩ := split_key (a := a) (p := p) (by
        rcases List.mem_cons.mp h with h | h
        · exact absurd h.symm e
        · exact h)
      refine ⟨(k, v) :: A, x, B, by rw [h1]; rfl, ?_, ?_⟩
      · simp only [List.map_cons, List.mem_cons, not_or]
        exact ⟨fun z => e z.symm, h2⟩
      · show ((if k = a then some v else lookA a p)).getD a = x
        rw [if_neg e]
        exact h3
theorem put_split {a : Str} {x y : Str} : ∀ {A B : Pm}, a ∉ A.map (·.1) → putA a y (A ++ (a, x) :: B) = A ++ (a, y) :: B
  | [], B, _ => by
    show (if a = a then (a, y) :: B else (a, x) :: putA a y B) = _
    rw [if_pos rfl]
    rfl
  | (k, v) :: A, B, h => by
    simp only [List.map_cons, List.mem_cons, not_or] at h
    show (if k = a then (k, y) :: (A ++ (a, x) :: B) else (k, v) :: putA a y (A ++ (a, x) :: B)) = _
    rw [if_neg fun z => h.1 z.symm, put_split h.2]
    rfl
def vals (p : Pm) : List Str := p.map (·.2)
theorem ex_one {A M B : Pm} {a b x y : Str} (nv : (vals (A ++ (a, x) :: (M ++ (b, y) :: B))).Nodup) : (inv (vals (A ++ (a, x) :: (M ++ (b, y) :: B))) + inv (vals (A ++ (a, y) :: (M ++ (b, x) :: B)))) % 2 = 1 := by
  simp only [vals, List.map_append, List.map_cons] at nv ⊢
  have n1 := (List.nodup_append.mp nv).2.1
  obtain ⟨n2, n3⟩ := List.nodup_cons.mp n1
  have n4 := List.nodup_append.mp n3
  refine inv_swap (fun e => n2 ?_) (fun e => n2 (List.mem_append_left _ e)) (fun e => n4.2.2 y e y (by simp) rfl)
  rw [e]
  simp
end Iv

set_option maxRecDepth 100000
namespace Iv
open PySem
/-! ### the parity of cycles is that of inversions -/
def exF (f : Str → Str) (a b : Str) (x : Str) : Str := if x = a then f b else if x = b then f a else f x
theorem exF_l {f : Str → Str} {a b : Str} : exF f a b a = f b := if_pos rfl
theorem exF_r {f : Str → Str} {a b : Str} (h : a ≠ b) : exF f a b b = f a := by
  unfold exF
  rw [if_neg fun e => h e.symm, if_pos rfl]
theorem exF_o {f : Str → Str} {a b x : Str} (h : x ≠ a) (h2 : x ≠ b) : exF f a b x = f x := by
  unfold exF
  rw [if_neg h, if_neg h2]
theorem exF_map {f : Str → Str} {a b : Str} {A : List Str} (h : a ∉ A) (h2 : b ∉ A) : A.map (exF f a b) = A.map f :=
  List.map_congr_left fun x hx => exF_o (fun e => h (e ▸ hx)) (fun e => h2 (e ▸ hx))
def Inj (f : Str → Str) (ks : List Str) : Prop := ∀ x ∈ ks, ∀ y ∈ ks, f x = f y → x = y
theorem not_map {f : Str → Str} {ks : List Str} (hi : Inj f ks) {a : Str} {M : List Str} (ha : a ∈ ks) (hM : ∀ x ∈ M, x ∈ ks) (h : a ∉ M) : f a ∉ M.map f := fun z => by
  obtain ⟨x, hx, e⟩ := List.mem_map.mp z
  exact h (hi x (hM x hx) a ha e ▸ hx)
theorem inv_exF1 {f : Str → Str} {a b : Str} {A M B : List Str} (hn : (A ++ a :: (M ++ b :: B)).Nodup) (hi : Inj f (A ++ a :: (M ++ b :: B))) :
    (inv ((A ++ a :: (M ++ b :: B)).map f) + inv ((A ++ a :: (M ++ b :: B)).map (exF f a b))) % 2 = 1 := by
  have n0 := List.nodup_append.mp hn
  have n1 := List.nodup_cons.mp n0.2.1
  have n2 := List.nodup_append.mp n1.2
  have n3 := List.nodup_cons.mp n2.2.1
  have hab : a ≠ b := fun e => n1.1 (by rw [e]; simp)
  have aA : a ∉ A := fun z => n0.2.2 a z a (by simp) rfl
  have bA : b ∉ A := fun z => n0.2.2 b z b (by simp) rfl
  have aM : a ∉ M := fun z => n1.1 (by simp [z])
  have bM : b ∉ M := fun z => n2.2.2 b z b (by simp) rfl
  have aB : a ∉ B := fun z => n1.1 (by simp [z])
  have bB : b ∉ B := n3.1
  have ka : a ∈ A ++ a :: (M ++ b :: B) := by simp
  have kb : b ∈ A ++ a :: (M ++ b :: B) := by simp
  simp only [List.map_append, List.map_cons, exF_l, exF_r hab, exF_map aA bA, exF_map aM bM, exF_map aB bB]
  exact inv_swap (fun e => hab (hi a ka b kb e)) (not_map hi ka (fun x hx => by simp [hx]) aM) (not_map hi kb (fun x hx => by simp [hx]) bM)
theorem exF_comm {f : Str → Str} {a b : Str} (h : a ≠ b) : exF f a b = exF f b a := by
  funext x
  unfold exF
  by_cases h1 : x = a
  · subst h1
    rw [if_pos rfl, if_neg h, if_pos rfl]
  · rw [if_neg h1]
    by_cases h2 : x = b
    · rw [if_pos h2, if_pos h2]
    · rw [if_neg h2, if_neg h2, if_neg h1]
theorem inv_exF {f : Str → Str} {a b : Str} {ks : List Str} (hn : ks.Nodup) (hi : Inj f ks) (ha : a ∈ ks) (hb : b ∈ ks) (h : a ≠ b) :
    (inv (ks.map f) + inv (ks.map (exF f a b))) % 2 = 1 := by
  obtain ⟨A, R, rfl⟩ := List.append_of_mem ha
  rcases List.mem_append.mp hb with hb | hb
  · obtain ⟨A1, M, rfl⟩ := List.append_of_mem hb
    rw [exF_comm h]
    have e : A1 ++ b :: M ++ a :: R = A1 ++ b :: (M ++ a :: R) := by simp
    rw [e] at hn hi ⊢
    exact inv_exF1 hn hi
  · rcases List.mem_cons.mp hb with hb | hb
    · exact absurd hb.symm h
    · obtain ⟨M, B, rfl⟩ := List.append_of_mem hb
      exact inv_exF1 hn hi
theorem inj_exF {f : Str → Str} {a b : Str} {ks : List Str} (hi : Inj f ks) (ha : a ∈ ks) (hb : b ∈ ks) (h : a ≠ b) : Inj (exF f a b) ks := by
  have key : ∀ x ∈ ks, ∃ y ∈ ks, exF f a b x = f y ∧ ((x = a ∧ y = b) ∨ (x = b ∧ y = a) ∨ (x ≠ a ∧ x ≠ b ∧ y = x)) := fun x hx => by
    by_cases h1 : x = a
    · subst h1; exact ⟨b, hb, exF_l, .inl ⟨rfl, rfl⟩⟩
    · by_cases h2 : x = b
      · subst h2; exact ⟨a, ha, exF_r h, .inr (.inl ⟨rfl, rfl⟩)⟩
      · exact ⟨x, hx, exF_o h1 h2, .inr (.inr ⟨h1, h2, rfl⟩)⟩
  intro x hx y hy e
  obtain ⟨x', kx, ex, cx⟩ := key x hx
  obtain ⟨y', ky, ey, cy⟩ := key y hy
  have e' := hi x' kx y' ky (by rw [← ex, ← ey, e])
  rcases cx with ⟨rfl, rfl⟩ | ⟨rfl, rfl⟩ | ⟨p1, p2, rfl⟩ <;> rcases cy with ⟨rfl, rfl⟩ | ⟨rfl, rfl⟩ | ⟨q1, q2, rfl⟩
  · rfl
  · exact e'.symm
  · exact absurd e'.symm q2
  · exact e'.symm
  · rfl
  · exact absurd e'.symm q1
  · exact absurd e' p2
  · exact absurd e' p1
  · exact e'
def walkF (f : Str → Str) : Nat → List Str → Str → List Str
  | 0, _, _ => []
  | n + 1, seen, l => if hasS l seen then [] else l :: walkF f n (seen ++ [l]) (f l)
theorem walkF_im (p : Pm) : ∀ (n : Nat) (seen : List Str) (l : Str), walkC p n seen l = walkF (im p) n seen l
  | 0, _, _ => rfl
  | n + 1, seen, l => by
    show (if hasS l seen then [] else l :: walkC p n (seen ++ [l]) (im p l)) = if hasS l seen then [] else l :: walkF (im p) n (seen ++ [l]) (im p l)
    rw [walkF_im p n]
theorem nd_snoc {l : Str} {D : List Str} (h : D.Nodup) (h2 : l ∉ D) : (D ++ [l]).Nodup := by
  rw [List.nodup_append]
  exact ⟨h, by simp, fun a ha b hb e => by rw [List.mem_singleton.mp hb] at e; exact h2 (e ▸ ha)⟩
theorem walk_par {f : Str → Str} {ks : List Str} (hk : ks.Nodup) {c : Str} (hc : c ∈ ks) : ∀ (n : Nat) (g : Str → Str) (D : List Str), Inj g ks → (∀ x ∈ ks, f x ∈ ks) → (g c ∈ ks) → c ∈ D → D.Nodup → (∀ x ∈ D, x ∈ ks) → (∀ x ∈ D, x ≠ c → g x = x) → (∀ x, x ∉ D → g x = f x) → ks.length + 1 ≤ n + D.length →
    ∃ g', Inj g' ks ∧ (∀ x ∈ D ++ walkF f n D (g c), g' x = x) ∧ (∀ x, x ∉ D ++ walkF f n D (g c) → g' x = f x) ∧ (D ++ walkF f n D (g c)).Nodup ∧ (∀ x ∈ D ++ walkF f n D (g c), x ∈ ks) ∧ (inv (ks.map g) + inv (ks.map g') + (walkF f n D (g c)).length) % 2 = 0
  | 0, g, D, _, _, _, _, nd, sub, _, _, hn => by
    have := nodup_len nd sub
    omega
  | n + 1, g, D, hi, hf, hgc, hcD, nd, sub, hid, hoff, hn => by
    cases hh : hasS (g c) D with
    | true =>
      have e : walkF f (n + 1) D (g c) = [] := by
        show (if hasS (g c) D then [] else _) = _
        rw [if_pos hh]
      have hm := hasS_iff.mp hh
      have ec : g c = c := by
        by_cases z : g c = c
        · exact z
        · exact hi _ (sub _ hm) _ hc (hid _ hm z)
      rw [e, List.append_nil]
      refine ⟨g, hi, fun x hx => ?_, hoff, nd, sub, ?_⟩
      · by_cases z : x = c
        · rw [z, ec]
        · exact hid x hx z
      · simp only [List.length_nil]
        omega
    | false =>
      have hnm : g c ∉ D := fun z => by
        rw [hasS_iff.mpr z] at hh
        cases hh
      have hne : c ≠ g c := fun z => hnm (by rw [← z]; exact hcD)
      have e1 : exF g c (g c) c = f (g c) := by rw [exF_l, hoff _ hnm]
      have e : walkF f (n + 1) D (g c) = g c :: walkF f n (D ++ [g c]) (f (g c)) := by
        show (if hasS (g c) D then [] else _) = _
        rw [if_neg (by rw [hh]; exact Bool.false_ne_true)]
      obtain ⟨g', i1, i2, i3, i4, i5, i6⟩ := walk_par hk hc n (exF g c (g c)) (D ++ [g c]) (inj_exF hi hc hgc hne) hf (by rw [e1]; exact hf _ hgc) (by simp [hcD]) (nd_snoc nd hnm)
        (fun x hx => by
          rcases List.mem_append.mp hx with hx | hx
          · exact sub x hx
          · rw [List.mem_singleton.mp hx]; exact hgc)
        (fun x hx hxc => by
          by_cases z : x = g c
          · rw [z, exF_r hne]
          · rcases List.mem_append.mp hx with hx | hx
            · rw [exF_o hxc z]; exact hid x hx hxc
            · exact absurd (List.mem_singleton.mp hx) z)
        (fun x hx => by
          simp only [List.mem_append, List.mem_singleton, not_or] at hx
          rw [exF_o (fun z => hx.1 (by rw [z]; exact hcD)) hx.2]
          exact hoff x hx.1)
        (by rw [List.length_append, List.length_singleton]; omega)
      have hp := inv_exF hk hi hc hgc hne
      rw [e1] at i2 i3 i4 i5 i6
      have ea : D ++ [g c] ++ walkF f n (D ++ [g c]) (f (g c)) = D ++ walkF f (n + 1) D (g c) := by rw [e]; simp
      rw [ea] at i2 i3 i4 i5
      refine ⟨g', i1, i2, i3, i4, i5, ?_⟩
      rw [e]
      simp only [List.length_cons]
      omega
def cycF (f : Str → Str) (n : Nat) : List Str → List Str → List (List Str)
  | [], _ => []
  | s :: r, seen => if 1 < (walkF f n seen s).length then walkF f n seen s :: cycF f n r (seen ++ walkF f n seen s) else cycF f n r (seen ++ walkF f n seen s)
theorem cycF_im (p : Pm) : ∀ (l seen : List Str), cyc p l seen = cycF (im p) (p.length + 1) l seen
  | [], _ => rfl
  | s :: r, seen => by
    show (if 1 < (walkC p (p.length + 1) seen s).length then walkC p (p.length + 1) seen s :: cyc p r (seen ++ walkC p (p.length + 1) seen s) else cyc p r (seen ++ walkC p (p.length + 1) seen s)) = if 1 < (walkF (im p) (p.length + 1) seen s).length then walkF (im p) (p.length + 1) seen s :: cycF (im p) (p.length + 1) r (seen ++ walkF (im p) (p.length + 1) seen s) else cycF (im p) (p.length + 1) r (seen ++ walkF (im p) (p.length + 1) seen s)
    rw [cycF_im p r, walkF_im]
theorem inv_sorted : ∀ {l : List Str}, l.Pairwise (fun a b => ltStr b a = false) → inv l = 0
  | [], _ => rfl
  | x :: r, h => by
    obtain ⟨h1, h2⟩ := List.pairwise_cons.mp h
    show r.countP (fun y => ltStr y x) + inv r = 0
    rw [inv_sorted h2, List.countP_eq_zero.mpr fun y hy => by rw [h1 y hy]; exact Bool.false_ne_true]
theorem odds_cons (w : List Str) (r : List (List Str)) : odds (w :: r) = (w.length : Int) - 1 + odds r := by
  simp [odds]
theorem cyc_par {f : Str → Str} {ks : List Str} (hk : ks.Nodup) (hs : ks.Pairwise (fun a b => ltStr b a = false)) (hf : ∀ x ∈ ks, f x ∈ ks) {n : Nat} (hn : ks.length + 1 ≤ n) : ∀ (l seen : List Str) (g : Str → Str), Inj g ks → (∀ x ∈ seen, g x = x) → (∀ x, x ∉ seen → g x = f x) → seen.Nodup → (∀ x ∈ seen, x ∈ ks) → (∀ x ∈ l, x ∈ ks) → (∀ x ∈ ks, x ∈ seen ∨ x ∈ l) →
    (odds (cycF f n l seen) + (inv (ks.map g) : Int)) % 2 = 0
  | [], seen, g, hi, hid, _, _, _, _, hall => by
    have e : ks.map g = ks := by
      conv => rhs; rw [← List.map_id ks]
      exact List.map_congr_left fun x hx => by
        rcases hall x hx with h | h
        · exact hid x h
        · cases h
    rw [e, inv_sorted hs]
    rfl
  | s :: r, seen, g, hi, hid, hoff, nd, sub, hl, hall => by
    have hsk := hl s List.mem_cons_self
    show (odds (if 1 < (walkF f n seen s).length then walkF f n seen s :: cycF f n r (seen ++ walkF f n seen s) else cycF f n r (seen ++ walkF f n seen s)) + (inv (ks.map g) : Int)) % 2 = 0
    have step : ∃ g', Inj g' ks ∧ (∀ x ∈ seen ++ walkF f n seen s, g' x = x) ∧ (∀ x, x ∉ seen ++ walkF f n seen s → g' x = f x) ∧ (seen ++ walkF f n seen s).Nodup ∧ (∀ x ∈ seen ++ walkF f n seen s, x ∈ ks) ∧ s ∈ seen ++ walkF f n seen s ∧ (inv (ks.map g) + inv (ks.map g') + ((walkF f n seen s).length - 1)) % 2 = 0 := by
      obtain ⟨m, rfl⟩ : ∃ m, n = m + 1 := ⟨n - 1, by omega⟩
      cases hh : hasS s seen with
      | true =>
        have e : walkF f (m + 1) seen s = [] := by
          show (if hasS s seen then [] else _) = _
          rw [if_pos hh]
        rw [e, List.append_nil]
        refine ⟨g, hi, hid, hoff, nd, sub, hasS_iff.mp hh, ?_⟩
        simp only [List.length_nil]
        omega
      | false =>
        have hnm : s ∉ seen := fun z => by
          rw [hasS_iff.mpr z] at hh
          cases hh
        have e : walkF f (m + 1) seen s = s :: walkF f m (seen ++ [s]) (f s) := by
          show (if hasS s seen then [] else _) = _
          rw [if_neg (by rw [hh]; exact Bool.false_ne_true)]
        have eg := hoff s hnm
        obtain ⟨g', i1, i2, i3, i4, i5, i6⟩ := walk_par hk hsk m g (seen ++ [s]) hi hf (by rw [eg]; exact hf s hsk) (by simp) (nd_snoc nd hnm)
          (fun x hx => by
            rcases List.mem_append.mp hx with hx | hx
            · exact sub x hx
            · rw [List.mem_singleton.mp hx]; exact hsk)
          (fun x hx hxc => by
            rcases List.mem_append.mp hx with hx | hx
            · exact hid x hx
            · exact absurd (List.mem_singleton.mp hx) hxc)
          (fun x hx => hoff x fun z => hx (by simp [z]))
          (by rw [List.length_append, List.length_singleton]; omega)
        rw [eg] at i2 i3 i4 i5 i6
        have ea : seen ++ [s] ++ walkF f m (seen ++ [s]) (f s) = seen ++ walkF f (m + 1) seen s := by rw [e]; simp
        rw [ea] at i2 i3 i4 i5
        refine ⟨g', i1, i2, i3, i4, i5, by rw [e]; simp, ?_⟩
        rw [e]
        simp only [List.length_cons]
        omega
    obtain ⟨g', i1, i2, i3, i4, i5, i6, i7⟩ := step
    have ih := cyc_par hk hs hf hn r (seen ++ walkF f n seen s) g' i1 i2 i3 i4 i5 (fun x hx => hl x (List.mem_cons_of_mem _ hx)) (fun x hx => by
      rcases hall x hx with h | h
      · exact .inl (by simp [h])
      · rcases List.mem_cons.mp h with h | h
        · exact .inl (h ▸ i6)
        · exact .inr h)
    by_cases c : 1 < (walkF f n seen s).length
    · rw [if_pos c, odds_cons]
      omega
    · rw [if_neg c]
      omega
/-- the parity that the cycles tell is that of the inversions -/
theorem parity_ok {p : Pm} (hp : PmOk p) (hs : (p.map (·.1)).Pairwise (fun a b => ltStr b a = false)) (hi : Inj (im p) (p.map (·.1))) :
    odds (cyc p (p.map (·.1)) []) % 2 = ((inv ((p.map (·.1)).map (im p)) : Nat) : Int) % 2 := by
  rw [cycF_im]
  have := cyc_par hp.nd hs hp.into (n := p.length + 1) (by simp) (p.map (·.1)) [] (im p) hi (fun _ h => by cases h) (fun _ _ => rfl) List.nodup_nil (fun _ h => by cases h) (fun _ h => h) (fun _ h => .inr h)
  omega
end Iv

set_option maxRecDepth 100000
namespace Iv
open PySem
@[simp] theorem keys0 : keys? [] = some [] := id rfl
@[simp] theorem fromP0 {a : List (Key × D)} : fromPairs a [] = a := id rfl
/-! ### _law_cycles: the same walk, the labels seen in a dict -/
def sdk (l : List Str) : List (Key × D) := l.map fun x => (.inr x, .bl true)
theorem look_sdk {x : Str} : ∀ l : List Str, (lookA (.inr x) (sdk l)).isSome = hasS x l
  | [] => rfl
  | y :: l => by
    show (if (Sum.inr y : Key) = .inr x then some (D.bl true) else lookA (.inr x) (sdk l)).isSome = (decide (y = x) || hasS x l)
    by_cases e : y = x
    · rw [if_pos (by rw [e]), decide_eq_true e]
      rfl
    · rw [if_neg (fun z => e (Sum.inr.inj z)), decide_eq_false e, look_sdk l]
      rfl
theorem sdk_snoc {x : Str} {l : List Str} (h : x ∉ l) : putA (.inr x) (.bl true) (sdk l) = sdk (l ++ [x]) := by
  rw [putA_new (by
    unfold sdk
    rw [List.map_map]
    intro z
    obtain ⟨y, hy, e⟩ := List.mem_map.mp z
    exact h (Sum.inr.inj e ▸ hy))]
  simp [sdk]
abbrev lF (F : Fns) : Env → Store → OutS := evSs F (.cons (.asg (.sub (.var 2) (.var 4)) (.con (.bl true))) (.cons (.expr (.bm .append (.var 5) (.cons (.var 4) (.nil)))) (.cons (.asg (.nm 4) (.ix (.var 1) (.var 4))) (.nil))))
abbrev lC (F : Fns) : Env → Store → Out Bool := fun ρ S => (evE F (.cmp .NotIn (.var 4) (.var 2)) ρ S).bind truO
theorem lwhile_ok {F : Fns} {p : Pm} (hp : PmOk p) {S : Store} {d0 : D} {C C2 : Cell} {G : Store} : ∀ (n : Nat) (fuel : Nat) (seen : List Str) (l : Str) (cy : List Str), n < fuel → l ∈ p.map (·.1) → (∀ x ∈ seen, x ∈ p.map (·.1)) → seen.Nodup → p.length + 1 ≤ n + seen.length → cy.length + n < 1000 →
    ∃ l', loopW (lC F) (lF F) fuel [some d0, some (.loc S.length), some (.loc (S.length + 1)), some (.loc (S.length + 2)), some (.str l), some (.loc (S.length + (4 + G.length)))] (S ++ ([.dct false (kd p), .dct false (sdk seen), C, C2] ++ (G ++ [.lst (sd cy)]))) =
      .nx [some d0, some (.loc S.length), some (.loc (S.length + 1)), some (.loc (S.length + 2)), some (.str l'), some (.loc (S.length + (4 + G.length)))] (S ++ ([.dct false (kd p), .dct false (sdk (seen ++ walkC p n seen l)), C, C2] ++ (G ++ [.lst (sd (cy ++ walkC p n seen l))]))) := by
  intro n
  induction n with
  | zero =>
    intro fuel seen l cy hf hl hs hn hc hz
    exfalso
    have := nodup_len hn hs
    rw [List.length_map] at this
    omega
  | succ n ih =>
    intro fuel seen l cy hf hl hs hn hc hz
    obtain ⟨fuel, rfl⟩ : ∃ f, fuel = f + 1 := ⟨fuel - 1, by omega⟩
    generalize hT : S ++ ([Cell.dct false (kd p), .dct false (sdk seen), C, C2] ++ (G ++ [.lst (sd cy)])) = T
    have g0 : T[S.length]? = some (.dct false (kd p)) := by rw [← hT, get_app0]; rfl
    have g1 : T[S.length + 1]? = some (.dct false (sdk seen)) := by rw [← hT, get_app]; rfl
    have g2 : T[S.length + (4 + G.length)]? = some (.lst (sd cy)) := by rw [← hT, get_app]; exact T_cy
    cases hc1 : hasS l seen with
    | true =>
      refine ⟨l, ?_⟩
      have e : walkC p (n + 1) seen l = [] := by unfold walkC; rw [hc1, if_pos rfl]
      rw [e, List.append_nil, List.append_nil, hT]
      unfold loopW
      have : lC F [some d0, some (.loc S.length), some (.loc (S.length + 1)), some (.loc (S.length + 2)), some (.str l), some (.loc (S.length + (4 + G.length)))] T = .ok false T := by
        simp [lC, nin_dct g1, look_sdk, hc1]
      rw [this]
      rfl
    | false =>
      have e : walkC p (n + 1) seen l = l :: walkC p n (seen ++ [l]) (im p l) := by
        show (if hasS l seen then [] else l :: walkC p n (seen ++ [l]) (im p l)) = _
        rw [hc1, if_neg Bool.false_ne_true]
      have hnl : l ∉ seen := fun z => by
        rw [hasS_iff.mpr z] at hc1
        cases hc1
      have s1 : (sdk seen).length < 16777216 := by
        have := nodup_len hn hs
        rw [List.length_map] at this
        have := hp.few
        simp only [sdk, List.length_map]
        omega
      have t1 : T.set (S.length + 1) (.dct false (sdk (seen ++ [l]))) = S ++ ([Cell.dct false (kd p), .dct false (sdk (seen ++ [l])), C, C2] ++ (G ++ [.lst (sd cy)])) := by
        rw [← hT, set_new]
        rfl
      generalize hT1 : S ++ ([Cell.dct false (kd p), .dct false (sdk (seen ++ [l])), C, C2] ++ (G ++ [.lst (sd cy)])) = T1 at t1
      have g3 : T1[S.length + (4 + G.length)]? = some (.lst (sd cy)) := by rw [← hT1, get_app]; exact T_cy
      have t2 : T1.set (S.length + (4 + G.length)) (.lst (sd cy ++ [.str l])) = S ++ ([Cell.dct false (kd p), .dct false (sdk (seen ++ [l])), C, C2] ++ (G ++ [.lst (sd (cy ++ [l]))])) := by
        rw [← hT1, set_new]
        have := T_set (A := [Cell.dct false (kd p), .dct false (sdk (seen ++ [l])), C, C2]) (G := G) (c := .lst (sd cy)) (c' := .lst (sd cy ++ [.str l]))
        simp only [List.length_cons, List.length_nil, Nat.zero_add, Nat.reduceAdd] at this
        rw [this]
        simp [sd]
      generalize hT2 : S ++ ([Cell.dct false (kd p), .dct false (sdk (seen ++ [l])), C, C2] ++ (G ++ [.lst (sd (cy ++ [l]))])) = T2 at t2
      have g4 : T2[S.length]? = some (.dct false (kd p)) := by rw [← hT2, get_app0]; rfl
      have b2 := appD_ok (d := .str l) g3 (by
        have : sizeLine = 16777216 := sizeLine_eq
        simp only [sd, List.length_map]
        omega)
      rw [t2] at b2
      have c1 : lC F [some d0, some (.loc S.length), some (.loc (S.length + 1)), some (.loc (S.length + 2)), some (.str l), some (.loc (S.length + (4 + G.length)))] T = .ok true T := by
        simp [lC, nin_dct g1, look_sdk, hc1]
      have c2 : lF F [some d0, some (.loc S.length), some (.loc (S.length + 1)), some (.loc (S.length + 2)), some (.str l), some (.loc (S.length + (4 + G.length)))] T = .nx [some d0, some (.loc S.length), some (.loc (S.length + 1)), some (.loc (S.length + 2)), some (.str (im p l)), some (.loc (S.length + (4 + G.length)))] T2 := by
        simp [lF, g1, s1, sdk_snoc hnl, t1, appK_ok g3, b2, g4, look_kd hl]
      obtain ⟨l', hw⟩ := ih fuel (seen ++ [l]) (im p l) (cy ++ [l]) (by omega) (hp.into l hl) (fun x hx => by
        rcases List.mem_append.mp hx with hx | hx
        · exact hs x hx
        · rw [List.mem_singleton.mp hx]; exact hl) (nd_snoc hn hnl) (by rw [List.length_append, List.length_singleton]; omega) (by rw [List.length_append, List.length_singleton]; omega)
      refine ⟨l', ?_⟩
      unfold loopW
      rw [c1, bindS_ok, if_pos rfl, c2]
      show loopW (lC F) (lF F) fuel _ T2 = _
      rw [← hT2, hw, e]
      simp
abbrev lB : ISs := .cons (.asg (.nm 5) (.lst (.nil))) (.cons (.whl (.cmp .NotIn (.var 4) (.var 2)) (.cons (.asg (.sub (.var 2) (.var 4)) (.con (.bl true))) (.cons (.expr (.bm .append (.var 5) (.cons (.var 4) (.nil)))) (.cons (.asg (.nm 4) (.ix (.var 1) (.var 4))) (.nil))))) (.cons (.ife (.cmp .Gt (.bf .len (.cons (.var 5) (.nil))) (.con (.int 1))) (.cons (.expr (.bm .append (.var 3) (.cons (.bf .tuple (.cons (.var 5) (.nil))) (.nil)))) (.nil)) (.nil)) (.nil)))
theorem lstart_ok {F : Fns} {p : Pm} (hp : PmOk p) {S : Store} {d0 : D} {o4 o5 : Option D} {C2 : Cell} {G : Store} {seen : List Str} {acc : List (List Str)} {s : Str} (hs : s ∈ p.map (·.1)) (hn : seen.Nodup) (hk : ∀ x ∈ seen, x ∈ p.map (·.1)) (ha : acc.length < 1000) :
    ∃ l' w, w = walkC p (p.length + 1) seen s ∧ (asgT F (.nm 4) (.str s) [some d0, some (.loc S.length), some (.loc (S.length + 1)), some (.loc (S.length + 2)), o4, o5] (S ++ ([.dct false (kd p), .dct false (sdk seen), .lst (cd acc), C2] ++ G))).bindS (fun ρ' S' => evSs F lB ρ' S') =
      .nx [some d0, some (.loc S.length), some (.loc (S.length + 1)), some (.loc (S.length + 2)), some (.str l'), some (.loc (S.length + (4 + G.length)))] (S ++ ([.dct false (kd p), .dct false (sdk (seen ++ w)), .lst (cd (if 1 < w.length then acc ++ [w] else acc)), C2] ++ (G ++ [.lst (sd w)]))) := by
  obtain ⟨l', hw⟩ := lwhile_ok (F := F) hp (S := S) (d0 := d0) (C := .lst (cd acc)) (C2 := C2) (G := G) (p.length + 1) fuelW seen s [] (fw _ (by have := hp.few; omega)) hs hk hn (by omega) (by have := hp.few; simp only [List.length_nil]; omega)
  generalize hW : walkC p (p.length + 1) seen s = w at hw
  refine ⟨l', w, rfl, ?_⟩
  have e0 : (S ++ ([Cell.dct false (kd p), .dct false (sdk seen), .lst (cd acc), C2] ++ G)).length = S.length + (4 + G.length) := by simp; omega
  have e1 : S ++ ([Cell.dct false (kd p), .dct false (sdk seen), .lst (cd acc), C2] ++ G) ++ [.lst []] = S ++ ([.dct false (kd p), .dct false (sdk seen), .lst (cd acc), C2] ++ (G ++ [.lst (sd [])])) := by simp [sd]
  rw [List.nil_append] at hw
  have hw2 : evS F (.whl (.cmp .NotIn (.var 4) (.var 2)) (.cons (.asg (.sub (.var 2) (.var 4)) (.con (.bl true))) (.cons (.expr (.bm .append (.var 5) (.cons (.var 4) (.nil)))) (.cons (.asg (.nm 4) (.ix (.var 1) (.var 4))) (.nil))))) [some d0, some (.loc S.length), some (.loc (S.length + 1)), some (.loc (S.length + 2)), some (.str s), some (.loc (S.length + (4 + G.length)))] (S ++ ([.dct false (kd p), .dct false (sdk seen), .lst (cd acc), C2] ++ (G ++ [.lst (sd [])]))) = _ := hw
  generalize hT : S ++ ([Cell.dct false (kd p), .dct false (sdk seen), .lst (cd acc), C2] ++ (G ++ [.lst (sd [])])) = T at e1 hw2
  generalize hU : S ++ ([Cell.dct false (kd p), .dct false (sdk (seen ++ w)), .lst (cd acc), C2] ++ (G ++ [.lst (sd w)])) = U at hw2
  have g5 : U[S.length + (4 + G.length)]? = some (.lst (sd w)) := by rw [← hU, get_app]; exact T_cy
  have g3 : U[S.length + 2]? = some (.lst (cd acc)) := by rw [← hU, get_app]; rfl
  have ap := appD_ok (d := .tup (sd w)) g3 (by
    have : sizeLine = 16777216 := sizeLine_eq
    simp only [cd, List.length_map]
    omega)
  have t1 : U.set (S.length + 2) (.lst (cd acc ++ [.tup (sd w)])) = S ++ ([.dct false (kd p), .dct false (sdk (seen ++ w)), .lst (cd (acc ++ [w])), C2] ++ (G ++ [.lst (sd w)])) := by
    rw [← hU, set_new]
    simp [cd]
  rw [t1] at ap
  have lw : (sd w).length = w.length := by simp [sd]
  generalize S ++ ([Cell.dct false (kd p), .dct false (sdk seen), .lst (cd acc), C2] ++ G) = T0 at e0 e1 ⊢
  by_cases c : 1 < w.length
  · rw [if_pos c]
    have c' : (1 : Int) < (w.length : Int) := by omega
    simp [e0, e1, hw2, len_loc g5, lw, c', appK_ok g3, tup_loc g5, ap]
  · rw [if_neg c, hU]
    have c' : ¬ (1 : Int) < (w.length : Int) := by omega
    simp [e0, e1, hw2, len_loc g5, lw, c']
theorem strKeys_kd (p : Pm) : strKeys ((kd p).map (·.1)) = some (p.map (·.1)) := by
  rw [kd_keys]
  generalize p.map (·.1) = l
  induction l with
  | nil => rfl
  | cons x l ih =>
    show (strKeys (l.map Sum.inr)).map (x :: ·) = _
    rw [ih]
    rfl
def PmS (p : Pm) : Prop := (p.map (·.1)).Pairwise fun a b => leStr a b = true
theorem sorted_kd {p : Pm} (hp : PmOk p) (hs : PmS p) (hl : p.length < 60) {S : Store} {n : Nat} (h : S[n]? = some (.dct false (kd p))) : bfD .sorted [.loc n] S = .ok (.loc S.length) (S ++ [.lst (sd (p.map (·.1)))]) := by
  have e : sortS (p.map (·.1)) = p.map (·.1) := sorted_uniq (sortS_perm _) (sortS_sorted _) hs
  show (match listOf S (.loc n) with
    | some xs => match sortD S xs with
      | some ys => newC (.lst ys) S
      | none => .bad
    | none => sortK (.loc n) S) = _
  have l1 : listOf S (.loc n) = none := by simp [listOf, lstAt, h]
  rw [l1]
  show sortK (.loc n) S = _
  simp only [sortK, h, strKeys_kd, List.length_map]
  rw [if_pos (by omega), e]
  rfl
theorem lcycles_ok {Γ : Nat → Option FDef} {k : Nat} (h : Γ i__law_cycles = some f__law_cycles) {p : Pm} (hp : PmOk p) (hs : PmS p) (hl : p.length < 60) (S : Store) :
    callN Γ (k + 1) i__law_cycles [.tup (pd p)] S = .ok (.tup (cd (cyc p (p.map (·.1)) []))) S := by
  rw [callN_eq h rfl]
  have key := loopF_all (src := .lst (S.length + 3) (sd (p.map (·.1)))) (f := fun x ρ S => (asgT (callN Γ k) (.nm 4) x ρ S).bindS (fun ρ' S' => evSs (callN Γ k) lB ρ' S'))
    (xs := sd (p.map (·.1))) (ρ := [some (.tup (pd p)), some (.loc S.length), some (.loc (S.length + 1)), some (.loc (S.length + 2)), none, none]) (S := S ++ ([.dct false (kd p), .dct false (sdk []), .lst (cd []), .lst (sd (p.map (·.1)))] ++ []))
    (fun i ρ S' => ∃ o4 o5 G seen acc, ρ = [some (.tup (pd p)), some (.loc S.length), some (.loc (S.length + 1)), some (.loc (S.length + 2)), o4, o5] ∧ S' = S ++ ([.dct false (kd p), .dct false (sdk seen), .lst (cd acc), .lst (sd (p.map (·.1)))] ++ G) ∧ acc ++ cyc p ((p.map (·.1)).drop i) seen = cyc p (p.map (·.1)) [] ∧ seen.Nodup ∧ (∀ x ∈ seen, x ∈ p.map (·.1)) ∧ acc.length ≤ i)
    ⟨none, none, [], [], [], rfl, rfl, rfl, List.nodup_nil, (fun _ z => by cases z), Nat.le_refl _⟩
    (fun i x ρ S' ⟨o4, o5, G, seen, acc, e1, e2, e3, e4, e5, e6⟩ hi => ?_) (fun ρ S' ⟨o4, o5, G, seen, acc, e1, e2, _⟩ => ?_)
  · obtain ⟨ρ', S', e0, o4, o5, G, seen, acc, e1, e2, e3, _⟩ := key
    rw [List.drop_of_length_le (by simp [sd])] at e3
    have e3 : acc = cyc p (p.map (·.1)) [] := by simpa [cyc] using e3
    subst e1 e2 e3
    have s1 : S ++ [Cell.dct false (kd p)] ++ [.dct false []] ++ [.lst []] = S ++ [Cell.dct false (kd p), .dct false [], .lst []] := by simp
    have s2 : S ++ [Cell.dct false (kd p), .dct false [], .lst []] ++ [.lst (sd (p.map (·.1)))] = S ++ ([.dct false (kd p), .dct false (sdk []), .lst (cd []), .lst (sd (p.map (·.1)))] ++ []) := by simp [sdk, cd]
    generalize hU : S ++ ([Cell.dct false (kd p), .dct false (sdk seen), .lst (cd (cyc p (p.map (·.1)) [])), .lst (sd (p.map (·.1)))] ++ G) = U at e0
    have g2 : U[S.length + 2]? = some (.lst (cd (cyc p (p.map (·.1)) []))) := by rw [← hU, get_app]; rfl
    have gl : gc S (.tup (cd (cyc p (p.map (·.1)) []))) U = .ok (.tup (cd (cyc p (p.map (·.1)) []))) S := by
      rw [← hU]
      refine gc_drop ?_
      rw [cl_tup, cls_mem]
      intro x hx
      obtain ⟨c, _, rfl⟩ := List.mem_map.mp hx
      rw [cl_tup, cls_mem]
      intro y hy
      obtain ⟨z, _, rfl⟩ := List.mem_map.mp hy
      rfl
    generalize hW : S ++ [Cell.dct false (kd p), .dct false [], .lst []] = W at s1 s2
    have gW : W[S.length]? = some (.dct false (kd p)) := by rw [← hW, get_app0]; rfl
    have so := sorted_kd hp hs hl gW
    have wl : W.length = S.length + 3 := by rw [← hW]; simp
    rw [s2, wl] at so
    generalize hV : S ++ ([Cell.dct false (kd p), .dct false (sdk []), .lst (cd []), .lst (sd (p.map (·.1)))] ++ []) = V at so e0
    have g3 : V[S.length + 3]? = some (.lst (sd (p.map (·.1)))) := by rw [← hV, get_app]; rfl
    have e5 : evS (callN Γ k) (.for_ (.nm 4) (.val (.bf .sorted (.cons (.var 1) (.nil)))) lB) [some (.tup (pd p)), some (.loc S.length), some (.loc (S.length + 1)), some (.loc (S.length + 2)), none, none] W =
        .nx [some (.tup (pd p)), some (.loc S.length), some (.loc (S.length + 1)), some (.loc (S.length + 2)), o4, o5] U := by
      have ei : evI (callN Γ k) (.val (.bf .sorted (.cons (.var 1) (.nil)))) [some (.tup (pd p)), some (.loc S.length), some (.loc (S.length + 1)), some (.loc (S.length + 2)), none, none] W = .ok (sd (p.map (·.1)), .lst (S.length + 3) (sd (p.map (·.1)))) V := by
        simp [so, walkOf, seqOf, lstAt, g3, srcOf]
      rw [st_for', ei]
      exact e0
    simp [-st_for', f__law_cycles, dict_pd hp.nd, s1, hW, e5, tup_loc g2, gl]
  · subst e1 e2
    obtain ⟨s, hs, rfl⟩ : ∃ s, (p.map (·.1))[i]? = some s ∧ x = .str s := by
      unfold sd at hi
      rw [List.getElem?_map] at hi
      obtain ⟨s, hs, rfl⟩ := Option.map_eq_some_iff.mp hi
      exact ⟨s, hs, rfl⟩
    refine ⟨decide_eq_true (by unfold lstAt; rw [get_app]; rfl), ?_⟩
    have hmem := List.mem_of_getElem? hs
    have hlen := (List.getElem?_eq_some_iff.mp hs).1
    have hd : (p.map (·.1)).drop i = s :: (p.map (·.1)).drop (i + 1) := by
      obtain ⟨h1, h2⟩ := List.getElem?_eq_some_iff.mp hs
      rw [← h2]
      exact List.drop_eq_getElem_cons h1
    obtain ⟨l', w, hw, hr⟩ := lstart_ok (F := callN Γ k) hp (S := S) (d0 := .tup (pd p)) (o4 := o4) (o5 := o5) (C2 := .lst (sd (p.map (·.1)))) (G := G) (seen := seen) (acc := acc) hmem e4 e5 (by have := hp.few; simp at hlen; omega)
    refine ⟨_, _, .inl hr, _, _, G ++ [.lst (sd w)], seen ++ w, _, rfl, rfl, ?_, ?_, ?_, ?_⟩
    · rw [← e3, hd]
      show _ = acc ++ (if 1 < (walkC p (p.length + 1) seen s).length then walkC p (p.length + 1) seen s :: cyc p ((p.map (·.1)).drop (i + 1)) (seen ++ walkC p (p.length + 1) seen s) else cyc p ((p.map (·.1)).drop (i + 1)) (seen ++ walkC p (p.length + 1) seen s))
      rw [← hw]
      by_cases c : 1 < w.length
      · rw [if_pos c, if_pos c]
        simp
      · rw [if_neg c, if_neg c]
    · rw [hw]
      exact (walk_nd hp _ _ _ hmem e4).1
    · intro x hx
      rcases List.mem_append.mp hx with hx | hx
      · exact e5 x hx
      · rw [hw] at hx
        exact (walk_nd hp _ _ _ hmem e4).2 x hx
    · by_cases c : 1 < w.length
      · rw [if_pos c, List.length_append, List.length_singleton]; omega
      · rw [if_neg c]; omega
  · subst e1 e2
    exact decide_eq_true (by unfold lstAt; rw [get_app]; rfl)
end Iv

set_option maxRecDepth 100000
namespace Iv
open PySem
/-! ### the law's distance, the law's parity -/
theorem sIx_nat {n d : Nat} {i : Nat} : HT.sIx n d (some (i : Int)) = min i n := by
  show (if (i : Int) < 0 then ((i : Int) + n).toNat else min (i : Int).toNat n) = _
  rw [if_neg (by omega), Int.toNat_natCast]
theorem cut_from {α : Type} {xs : List α} {i : Nat} : cutL xs (some (i : Int)) none = xs.drop i := by
  unfold cutL
  rw [sIx_nat]
  show (xs.drop (min i xs.length)).take (xs.length - min i xs.length) = _
  rw [List.take_of_length_le (by simp)]
  by_cases h : i ≤ xs.length
  · rw [Nat.min_eq_left h]
  · rw [Nat.min_eq_right (by omega), List.drop_of_length_le (by omega), List.drop_of_length_le (by omega)]
theorem cut_to {α : Type} {xs : List α} {i : Nat} : cutL xs none (some (i : Int)) = xs.take i := by
  unfold cutL
  rw [sIx_nat]
  show (xs.drop 0).take (min i xs.length - 0) = _
  rw [List.drop_zero, Nat.sub_zero]
  by_cases h : i ≤ xs.length
  · rw [Nat.min_eq_left h]
  · rw [Nat.min_eq_right (by omega), List.take_of_length_le (by omega), List.take_of_length_le (by omega)]
theorem rangeL_get : ∀ {n : Nat} {lo : Int} {i : Nat} {x : D}, (rangeL lo n)[i]? = some x → x = .int (lo + i) ∧ i < n
  | 0, _, _, _, h => by cases h
  | n + 1, lo, 0, x, h => by
    cases h
    exact ⟨by simp, by omega⟩
  | n + 1, lo, i + 1, x, h => by
    have h : (rangeL (lo + 1) n)[i]? = some x := h
    obtain ⟨h1, h2⟩ := rangeL_get h
    refine ⟨?_, by omega⟩
    rw [h1]
    congr 1
    omega
theorem range_n {n : Nat} (h : n < 10 ^ 9) : rangeOf [.int (n : Int)] = some (rangeL 0 n) := by
  show (if small62 (n : Int) = true then some (rangeL 0 (n : Int).toNat) else none) = _
  have e : small62 (n : Int) = true := decide_eq_true (by omega)
  rw [if_pos e, Int.toNat_natCast]
theorem slc_loc {S : Store} {n : Nat} {xs : List D} {lo hi : Option Int} (h : S[n]? = some (.lst xs)) : slD (.loc n) lo hi S = .ok (.loc S.length) (S ++ [.lst (cutL xs lo hi)]) := by
  simp [slD, lstAt, h]
@[simp] theorem lt_str {x y : Str} {S : Store} : cmpD .Lt (.str x) (.str y) S = some (ltStr x y) := id rfl
theorem ldist_ok {Γ : Nat → Option FDef} {k : Nat} (h : Γ i__law_distance = some f__law_distance) (h2 : Γ i__law_cycles = some f__law_cycles) {p : Pm} (hp : PmOk p) (hs : PmS p) (hl : p.length < 60) (S : Store) :
    callN Γ (k + 2) i__law_distance [.tup (pd p)] S = .ok (.int (gapd p)) S := by
  rw [callN_eq h rfl]
  have m := moved_ok (F := callN Γ (k + 1)) (p := p) (by have := hp.few; omega) (S := S) (o1 := none) (o2 := none) (o3 := none) (o4 := none) (z := .con (.str "")) (fun _ _ => rfl)
  have c := fun S' => lcycles_ok (k := k) h2 hp hs hl S'
  have cl : (cyc p (p.map (·.1)) []).length < 1000 := by
    have := cyc_len p (p.map (·.1)) []
    have := hp.few
    simp only [List.length_map] at *
    omega
  have f := free_ok (F := callN Γ (k + 1)) cl (S := S ++ [.lst (sd ((p.filter mv).map (·.1)))]) (e := .call i__law_cycles (.cons (.var 0) (.nil))) (ρ0 := [some (.tup (pd p)), some (.loc S.length), none, none, none]) (v := 4) (by simp) (z := .con (.str "")) (fun _ _ => rfl) (by simp [c])
  generalize hT : S ++ [Cell.lst (sd ((p.filter mv).map (·.1)))] = T at f m
  have g1 : T[S.length]? = some (.lst (sd ((p.filter mv).map (·.1)))) := by rw [← hT, get_app0]; rfl
  have l1 := len_loc g1
  have l2 := len_loc (S := T ++ [.lst (cd ((cyc p (p.map (·.1)) []).filter fun c => !hasS "" c))]) (n := T.length) (xs := cd ((cyc p (p.map (·.1)) []).filter fun c => !hasS "" c)) (by rw [get_app0]; rfl)
  have gd : ∀ i : Int, gc S (.int i) (T ++ [.lst (cd ((cyc p (p.map (·.1)) []).filter fun c => !hasS "" c))]) = .ok (.int i) S := fun i => by
    rw [← hT, List.append_assoc]
    exact gc_drop rfl
  have e1 : (sd ((p.filter mv).map (·.1))).length = (p.filter mv).length := by simp [sd]
  have e2 : (cd ((cyc p (p.map (·.1)) []).filter fun c => !hasS "" c)).length = ((cyc p (p.map (·.1)) []).filter fun c => !hasS "" c).length := by simp [cd]
  rw [e1] at l1
  rw [e2] at l2
  generalize T ++ [Cell.lst (cd ((cyc p (p.map (·.1)) []).filter fun c => !hasS "" c))] = U at f l2 gd
  simp only [f__law_distance]
  simp [m, f, l1, l2, gd, gapd]
/-- the images -/
theorem imgs_ok {F : Fns} {p : Pm} (hp : p.length < 1000) {S : Store} {r : Env} (hr : r.length = 6) :
    evE F (.lc (.var 5) (.tup (.cons (.nm 4) (.cons (.nm 5) (.nil)))) (.val (.var 0)) (.none)) (some (.tup (pd p)) :: r) S = .ok (.loc S.length) (S ++ [.lst (sd (p.map (·.2)))]) := by
  have h := loopC_pure (src := .free) (f := turnC F (.var 5) (.tup (.cons (.nm 4) (.cons (.nm 5) (.nil)))) .none (some (.tup (pd p)) :: r)) (xs := pd p) (S := S)
    (fun x => match x with | .tup [.str a, .str b] => some (.str b) | _ => none) (by simp [pd]; omega) (fun _ => rfl) (fun x hx acc => ?_) (fun x hx d hd => ?_)
  · have e : (pd p).filterMap (fun x => match x with | .tup [.str a, .str b] => some (.str b) | _ => none) = sd (p.map (·.2)) := by
      clear h hp
      induction p with
      | nil => rfl
      | cons q p ih =>
        show List.filterMap _ (.tup [.str q.1, .str q.2] :: pd p) = _
        rw [List.filterMap_cons]
        simp [ih, sd]
    rw [e] at h
    rw [ev_lc, evi_val]
    simp [walkOf, seqOf, srcOf, h]
  · obtain ⟨q, _, rfl⟩ := List.mem_map.mp hx
    refine ⟨[], ?_⟩
    obtain ⟨r0, r1, r2, r3, r4, r5, rfl⟩ : ∃ r0 r1 r2 r3 r4 r5, r = [r0, r1, r2, r3, r4, r5] := by
      match r, hr with
      | [r0, r1, r2, r3, r4, r5], _ => exact ⟨r0, r1, r2, r3, r4, r5, rfl⟩
    simp [turnC, bindT, bindTs, slotsT, slotsTs, wipeE, evC]
  · obtain ⟨q, _, rfl⟩ := List.mem_map.mp hx
    cases hd
    rfl
/-- how many of a list are less -/
theorem less_ok {F : Fns} {vs : List Str} {x : Str} {i : Nat} (hv : vs.length < 1000) {S : Store} {m : Nat} {d0 d2 : D} {o4 o5 : Option D} (h1 : S[m]? = some (.lst (sd vs))) (hx : vs[i]? = some x) :
    evE F (.bf .len (.cons (.lc (.con (.int 1)) (.nm 6) (.val (.slc (.var 1) (.some (.var 3)) (.none))) (.some (.cmp .Lt (.var 6) (.ix (.var 1) (.var 3))))) (.nil))) [some d0, some (.loc m), some d2, some (.int (i : Nat)), o4, o5, none] S =
      .ok (.int ((vs.drop i).countP fun y => ltStr y x)) (S ++ [.lst (sd (vs.drop i)), .lst (((vs.drop i).filter fun y => ltStr y x).map fun _ => .int 1)]) := by
  have hm := (List.getElem?_eq_some_iff.mp h1).1
  have h1' : ∀ T : Store, (S ++ T)[m]? = some (.lst (sd vs)) := fun T => by rw [List.getElem?_append_left hm]; exact h1
  have hx' : (sd vs)[i]? = some (.str x) := by unfold sd; rw [List.getElem?_map, hx]; rfl
  have h := loopC_pure (src := .lst S.length (sd (vs.drop i))) (f := turnC F (.con (.int 1)) (.nm 6) (.some (.cmp .Lt (.var 6) (.ix (.var 1) (.var 3)))) [some d0, some (.loc m), some d2, some (.int (i : Nat)), o4, o5, none]) (xs := sd (vs.drop i)) (S := S ++ [.lst (sd (vs.drop i))])
    (fun y => match y with | .str y => if ltStr y x then some (.int 1) else none | _ => none) (by have : sizeLine = 16777216 := sizeLine_eq; simp [sd]; omega) (fun acc => decide_eq_true (by unfold lstAt; rw [List.append_assoc, get_app0]; rfl)) (fun y hy acc => ?_) (fun y hy d hd => ?_)
  · have e : ∀ l : List Str, (sd l).filterMap (fun y => match y with | .str y => if ltStr y x then some (D.int 1) else none | _ => none) = ((l.filter fun y => ltStr y x).map fun _ => D.int 1) := fun l => by
      induction l with
      | nil => rfl
      | cons q p ih =>
        show List.filterMap _ (.str q :: sd p) = _
        rw [List.filterMap_cons, List.filter_cons, ih]
        cases hq : ltStr q x <;> simp [hq]
    rw [e, List.append_assoc, List.append_assoc] at h
    have sl := slc_loc (lo := some (i : Int)) (hi := none) h1
    rw [cut_from] at sl
    have e3 : (S ++ [Cell.lst (sd (vs.drop i))])[S.length]? = some (.lst (sd (vs.drop i))) := by rw [get_app0]; rfl
    have ei : evI F (.val (.slc (.var 1) (.some (.var 3)) (.none))) [some d0, some (.loc m), some d2, some (.int (i : Nat)), o4, o5, none] S = .ok (sd (vs.drop i), .lst S.length (sd (vs.drop i))) (S ++ [.lst (sd (vs.drop i))]) := by
      have e2 : List.drop i (sd vs) = sd (vs.drop i) := by unfold sd; rw [List.map_drop]
      rw [e2] at sl
      simp only [evi_val, ev_slc, ev_var, evo_some, evo_none]
      simp [sl, walkOf, seqOf, lstAt, e3, srcOf]
    have el := len_loc (S := S ++ ([Cell.lst (sd (vs.drop i))] ++ [.lst (((vs.drop i).filter fun y => ltStr y x).map fun _ => .int 1)])) (n := S.length + 1) (xs := ((vs.drop i).filter fun y => ltStr y x).map fun _ => .int 1) (by rw [get_app]; rfl)
    rw [List.length_map, ← List.countP_eq_length_filter] at el
    simp only [List.length_append, List.length_singleton] at h
    simp only [ev_bf, evs_cons, evs_nil, ev_lc, ei, bind_ok, List.length_append, List.length_singleton, List.append_assoc, h, el]
    rfl
  · obtain ⟨q, _, rfl⟩ := List.mem_map.mp hy
    refine ⟨[], ?_⟩
    have g := h1' ([.lst (sd (vs.drop i))] ++ [.lst acc])
    have g : (S ++ [Cell.lst (sd (vs.drop i)), .lst acc])[m]? = some (.lst (sd vs)) := g
    simp only [turnC, bindT, slotsT, wipeE]
    cases hq : ltStr q x
    · simp [evC, g, hx', hq, tru]
    · simp [evC, g, hx', hq, tru]
  · obtain ⟨q, _, rfl⟩ := List.mem_map.mp hy
    by_cases z : ltStr q x = true
    · simp [z] at hd
      subst hd
      rfl
    · simp [z] at hd
end Iv

set_option maxRecDepth 100000
namespace Iv
open PySem
/-! ### loops that write one dict -/
theorem putA_keys {a b : Str} : ∀ {q : Pm}, a ∈ q.map (·.1) → (putA a b q).map (·.1) = q.map (·.1)
  | [], h => by cases h
  | (k, v) :: q, h => by
    show (if k = a then (k, b) :: q else (k, v) :: putA a b q).map (·.1) = k :: q.map (·.1)
    by_cases e : k = a
    · rw [if_pos e]; rfl
    · rw [if_neg e]
      show k :: (putA a b q).map (·.1) = _
      rw [putA_keys (by
        rcases List.mem_cons.mp h with h | h
        · exact absurd h.symm e
        · exact h)]
theorem look_put {a b x : Str} : ∀ {q : Pm}, lookA x (putA a b q) = if a = x then some b else lookA x q
  | [] => by
    show (if a = x then some b else none) = _
    rfl
  | (k, v) :: q => by
    show lookA x (if k = a then (k, b) :: q else (k, v) :: putA a b q) = if a = x then some b else if k = x then some v else lookA x q
    by_cases e : k = a
    · subst e
      rw [if_pos rfl]
      show (if k = x then some b else lookA x q) = _
      by_cases e2 : k = x
      · rw [if_pos e2, if_pos e2]
      · rw [if_neg e2, if_neg e2, if_neg e2]
    · rw [if_neg e]
      show (if k = x then some v else lookA x (putA a b q)) = _
      rw [look_put]
      by_cases e2 : k = x
      · subst e2
        rw [if_pos rfl, if_neg (fun z => e z.symm), if_pos rfl]
      · rw [if_neg e2, if_neg e2]
theorem im_put {a b x : Str} {q : Pm} : im (putA a b q) x = if x = a then b else im q x := by
  unfold im
  rw [look_put]
  by_cases e : a = x
  · rw [if_pos e, if_pos e.symm]; rfl
  · rw [if_neg e, if_neg fun z => e z.symm]
theorem kd_put {a b : Str} : ∀ {q : Pm}, putA (Sum.inr a : Key) (.str b) (kd q) = kd (putA a b q)
  | [] => rfl
  | (k, v) :: q => by
    show (if (Sum.inr k : Key) = .inr a then (Sum.inr k, D.str b) :: kd q else (Sum.inr k, D.str v) :: putA (Sum.inr a : Key) (.str b) (kd q)) = kd (if k = a then (k, b) :: q else (k, v) :: putA a b q)
    by_cases e : k = a
    · rw [if_pos (by rw [e]), if_pos e]
      rfl
    · rw [if_neg (fun z => e (Sum.inr.inj z)), if_neg e, kd_put]
      rfl
theorem pm_loop {src : Src} {f : D → Env → Store → OutS} {xs : List D} {ρ : Env} {T : Store} {v nm : Nat} (J : Nat → Pm → Prop) {q0 : Pm} {o0 : Option D} (h0 : J 0 q0) (hs : ∀ q, src.ok (T.set nm (.dct false (kd q))) = true)
    (step : ∀ i x q o, J i q → xs[i]? = some x → ∃ q', J (i + 1) q' ∧ f x (ρ.set v o) (T.set nm (.dct false (kd q))) = .nx (ρ.set v (some x)) (T.set nm (.dct false (kd q')))) :
    ∃ q o, J xs.length q ∧ loopF src f xs (ρ.set v o0) (T.set nm (.dct false (kd q0))) = .nx (ρ.set v o) (T.set nm (.dct false (kd q))) := by
  obtain ⟨ρ', S', e0, q, o, h1, h2, h3⟩ := loopF_all (src := src) (f := f) (xs := xs) (ρ := ρ.set v o0) (S := T.set nm (.dct false (kd q0)))
    (fun i ρ' S' => ∃ q o, J i q ∧ ρ' = ρ.set v o ∧ S' = T.set nm (.dct false (kd q))) ⟨q0, o0, h0, rfl, rfl⟩
    (fun i x ρ' S' ⟨q, o, h1, h2, h3⟩ hi => by
      subst h2 h3
      obtain ⟨q', j, e⟩ := step i x q o h1 hi
      exact ⟨hs q, _, _, .inl e, q', some x, j, rfl, rfl⟩)
    (fun ρ' S' ⟨q, o, h1, h2, h3⟩ => by subst h3; exact hs q)
  subst h2 h3
  exact ⟨q, o, h1, e0⟩
theorem perm_sd {ys : List D} {l : List Str} (h : ys.Perm (sd l)) : ∃ l', ys = sd l' ∧ l'.Perm l := by
  let g : D → Option Str := fun d => match d with | .str x => some x | _ => none
  have e1 : ∀ l : List Str, (sd l).filterMap g = l := fun l => by
    induction l with
    | nil => rfl
    | cons x l ih =>
      show (D.str x :: sd l).filterMap g = _
      rw [List.filterMap_cons]
      show x :: (sd l).filterMap g = _
      rw [ih]
  have e2 : ∀ ys : List D, (∀ y ∈ ys, ∃ x, y = .str x) → ys = sd (ys.filterMap g) := fun ys => by
    induction ys with
    | nil => exact fun _ => rfl
    | cons y ys ih =>
      intro h
      obtain ⟨x, rfl⟩ := h y List.mem_cons_self
      rw [List.filterMap_cons]
      show _ = D.str x :: sd (ys.filterMap g)
      rw [← ih fun y hy => h y (List.mem_cons_of_mem _ hy)]
  refine ⟨ys.filterMap g, e2 ys fun y hy => ?_, ?_⟩
  · obtain ⟨x, _, e⟩ := List.mem_map.mp (h.subset hy)
    exact ⟨x, e.symm⟩
  · have := h.filterMap g
    rwa [e1] at this
theorem zip_keys : ∀ {a b : List Str}, a.length = b.length → (a.zip b).map (·.1) = a
  | [], _, _ => rfl
  | x :: a, [], h => by simp at h
  | x :: a, y :: b, h => by
    show x :: (a.zip b).map (·.1) = _
    rw [zip_keys (by simpa using h)]
/-- what a permutation is to be -/
structure MapOk (ls : List Str) (q : Pm) : Prop where
  ks : q.map (·.1) = ls
  inj : Inj (im q) ls
  into : ∀ x ∈ ls, im q x ∈ ls
theorem im_zip {a b : List Str} (hn : a.Nodup) (hl : a.length = b.length) {i : Nat} {x : Str} (h : a[i]? = some x) : b[i]? = some (im (a.zip b) x) := by
  induction a generalizing b i with
  | nil => cases h
  | cons y a ih =>
    match b, hl with
    | z :: b, hl =>
      obtain ⟨n1, n2⟩ := List.nodup_cons.mp hn
      cases i with
      | zero =>
        have e : y = x := Option.some.inj h
        subst e
        show some z = some ((if y = y then some z else _).getD y)
        rw [if_pos rfl]
        rfl
      | succ i =>
        have h : a[i]? = some x := h
        have hm := List.mem_of_getElem? h
        have ne : y ≠ x := fun e => n1 (e ▸ hm)
        show b[i]? = some ((if y = x then some z else lookA x (a.zip b)).getD x)
        rw [if_neg ne]
        exact ih n2 (by simpa using hl) h
theorem map_zip {ls vs : List Str} (hn : ls.Nodup) (hp : vs.Perm ls) : MapOk ls (ls.zip vs) := by
  have hl := hp.length_eq.symm
  refine ⟨zip_keys hl, fun x hx y hy e => ?_, fun x hx => ?_⟩
  · obtain ⟨i, hi⟩ := List.getElem?_of_mem hx
    obtain ⟨j, hj⟩ := List.getElem?_of_mem hy
    have a := im_zip hn hl hi
    have b := im_zip hn hl hj
    rw [e] at a
    have hnv : vs.Nodup := hp.nodup_iff.mpr hn
    have lj := (List.getElem?_eq_some_iff.mp b).1
    have : i = j := (List.getElem?_inj (List.getElem?_eq_some_iff.mp a).1 hnv).mp (a.trans b.symm)
    subst this
    exact Option.some.inj (hi.symm.trans hj)
  · obtain ⟨i, hi⟩ := List.getElem?_of_mem hx
    exact hp.subset (List.mem_of_getElem? (im_zip hn hl hi))
theorem map_rot {ls vs : List Str} (hn : ls.Nodup) (hp : vs.Perm ls) {q : Pm} (hk : q.map (·.1) = ls) (h : ∀ i x, vs[i]? = some x → (0 < i → ∀ y, vs[i - 1]? = some y → im q y = x) ∧ (i = 0 → ∀ y, vs[vs.length - 1]? = some y → im q y = x)) : MapOk ls q := by
  have hnv : vs.Nodup := hp.nodup_iff.mpr hn
  have key : ∀ i x, vs[i]? = some x → vs[(i + 1) % vs.length]? = some (im q x) := fun i x hx => by
    have hi := (List.getElem?_eq_some_iff.mp hx).1
    by_cases c : i + 1 < vs.length
    · rw [Nat.mod_eq_of_lt c]
      obtain ⟨z, hz⟩ : ∃ z, vs[i + 1]? = some z := ⟨_, List.getElem?_eq_getElem c⟩
      rw [hz, ((h _ _ hz).1 (by omega) x (by simpa using hx))]
    · have e : i + 1 = vs.length := by omega
      rw [e, Nat.mod_self]
      obtain ⟨z, hz⟩ : ∃ z, vs[0]? = some z := ⟨_, List.getElem?_eq_getElem (by omega)⟩
      rw [hz, ((h _ _ hz).2 rfl x (by rw [← e]; simpa using hx))]
  have inv : ∀ x ∈ ls, x ∈ vs := fun x hx => hp.symm.subset hx
  refine ⟨hk, fun x hx y hy e => ?_, fun x hx => ?_⟩
  · obtain ⟨i, hi⟩ := List.getElem?_of_mem (inv x hx)
    obtain ⟨j, hj⟩ := List.getElem?_of_mem (inv y hy)
    have li := (List.getElem?_eq_some_iff.mp hi).1
    have lj := (List.getElem?_eq_some_iff.mp hj).1
    have a := key i x hi
    have b := key j y hj
    rw [e] at a
    have e2 : (i + 1) % vs.length = (j + 1) % vs.length := (List.getElem?_inj (List.getElem?_eq_some_iff.mp a).1 hnv).mp (a.trans b.symm)
    have e3 : i = j := by
      by_cases c1 : i + 1 < vs.length <;> by_cases c2 : j + 1 < vs.length
      · rw [Nat.mod_eq_of_lt c1, Nat.mod_eq_of_lt c2] at e2; omega
      · rw [Nat.mod_eq_of_lt c1, show j + 1 = vs.length by omega, Nat.mod_self] at e2; omega
      · rw [Nat.mod_eq_of_lt c2, show i + 1 = vs.length by omega, Nat.mod_self] at e2; omega
      · omega
    subst e3
    exact Option.some.inj (hi.symm.trans hj)
  · obtain ⟨i, hi⟩ := List.getElem?_of_mem (inv x hx)
    exact hp.subset (List.mem_of_getElem? (key i x hi))
theorem map_ex {ls : List Str} {q : Pm} (h : MapOk ls q) {a b : Str} (ha : a ∈ ls) (hb : b ∈ ls) (hab : a ≠ b) (fa : im q a = a) (fb : im q b = b) :
    MapOk ls (putA b a (putA a b q)) ∧ ∀ x, x ≠ a → x ≠ b → im (putA b a (putA a b q)) x = im q x := by
  have e : im (putA b a (putA a b q)) = exF (im q) a b := by
    funext x
    rw [im_put, im_put]
    unfold exF
    by_cases c1 : x = b
    · subst c1
      rw [if_pos rfl, if_neg (fun z => hab z.symm), if_pos rfl, fa]
    · rw [if_neg c1, if_neg c1, fb]
  have k1 : (putA a b q).map (·.1) = ls := by rw [putA_keys (by rw [h.ks]; exact ha), h.ks]
  refine ⟨⟨by rw [putA_keys (by rw [k1]; exact hb), k1], by rw [e]; exact inj_exF h.inj ha hb hab, fun x hx => ?_⟩, fun x h1 h2 => by rw [e, exF_o h1 h2]⟩
  rw [e]
  unfold exF
  split
  · exact h.into b hb
  · split
    · exact h.into a ha
    · exact h.into x hx
end Iv

set_option maxRecDepth 100000
namespace Iv
open PySem
/-! ### _law_permutation, its loops -/
theorem set_get {T : Store} {n : Nat} {c : Cell} (h : n < T.length) : (T.set n c)[n]? = some c := List.getElem?_set_self h
theorem set_get' {T : Store} {n m : Nat} {c : Cell} (h : n ≠ m) : (T.set n c)[m]? = T[m]? := List.getElem?_set_ne h
theorem sd_get {l : List Str} {i : Nat} {x : Str} (h : l[i]? = some x) : (sd l)[i]? = some (.str x) := by unfold sd; rw [List.getElem?_map, h]; rfl
theorem sd_get' {l : List Str} {i : Nat} {x : D} (h : (sd l)[i]? = some x) : ∃ y, l[i]? = some y ∧ x = .str y := by
  unfold sd at h
  rw [List.getElem?_map] at h
  obtain ⟨s, hs, rfl⟩ := Option.map_eq_some_iff.mp h
  exact ⟨s, hs, rfl⟩
theorem sd_len (l : List Str) : (sd l).length = l.length := by simp [sd]
theorem kd_len (p : Pm) : (kd p).length = p.length := by simp [kd]
theorem key_len {p : Pm} {ls : List Str} (h : p.map (·.1) = ls) : p.length = ls.length := by rw [← h, List.length_map]
section
variable {F : Fns} {T : Store} {nl ni nm : Nat} {ls vs : List Str} {d0 d1 d2 d3 d6 : D} {o8 o9 : Option D}
abbrev lEnv (d0 d1 d2 d3 d6 : D) (nl ni nm : Nat) (o8 o9 : Option D) : Env := [some d0, some d1, some d2, some d3, some (.loc nl), some (.loc ni), some d6, some (.loc nm), o8, o9]
theorem perm1 (hl : T[nl]? = some (.lst (sd ls))) (hi : T[ni]? = some (.lst (sd vs))) (h1 : nm ≠ nl) (h2 : nm ≠ ni) (hm : nm < T.length) (hn : ls.Nodup) (he : vs.length = ls.length) (hz : ls.length < 100) :
    ∃ o, evS F (.for_ (.nm 8) (.range (.cons (.bf .len (.cons (.var 4) (.nil))) (.nil))) (.cons (.asg (.sub (.var 7) (.ix (.var 4) (.var 8))) (.ix (.var 5) (.var 8))) (.nil))) (lEnv d0 d1 d2 d3 d6 nl ni nm o8 o9) (T.set nm (.dct false (kd []))) =
      .nx (lEnv d0 d1 d2 d3 d6 nl ni nm o o9) (T.set nm (.dct false (kd (ls.zip vs)))) := by
  have gl : ∀ c, (T.set nm c)[nl]? = some (.lst (sd ls)) := fun c => by rw [set_get' h1]; exact hl
  have gi : ∀ c, (T.set nm c)[ni]? = some (.lst (sd vs)) := fun c => by rw [set_get' h2]; exact hi
  have gm : ∀ c, (T.set nm c)[nm]? = some c := fun c => set_get hm
  have key := pm_loop (src := .free) (f := fun x ρ S => (asgT F (.nm 8) x ρ S).bindS (fun ρ' S' => evSs F (.cons (.asg (.sub (.var 7) (.ix (.var 4) (.var 8))) (.ix (.var 5) (.var 8))) (.nil)) ρ' S')) (xs := rangeL 0 ls.length) (ρ := lEnv d0 d1 d2 d3 d6 nl ni nm o8 o9) (T := T) (v := 8) (nm := nm)
    (fun i q => q = (ls.zip vs).take i) (q0 := []) (o0 := o8) rfl (fun _ => rfl) (fun i x q o hq hx => ?_)
  · obtain ⟨q, o, hq, e⟩ := key
    rw [rangeL_len, List.take_of_length_le (by rw [List.length_zip, he, Nat.min_self]; exact Nat.le_refl _)] at hq
    subst hq
    refine ⟨o, ?_⟩
    have ei : evI F (.range (.cons (.bf .len (.cons (.var 4) (.nil))) (.nil))) (lEnv d0 d1 d2 d3 d6 nl ni nm o8 o9) (T.set nm (.dct false (kd []))) = .ok (rangeL 0 ls.length, .free) (T.set nm (.dct false (kd []))) := by
      have l := len_loc (gl (.dct false (kd [])))
      rw [sd_len] at l
      generalize T.set nm (.dct false (kd [])) = U at l
      simp [l, range_n (show ls.length < 10 ^ 9 by omega)]
    rw [st_for', ei]
    exact e
  · obtain ⟨rfl, hi2⟩ := rangeL_get hx
    rw [Int.zero_add]
    obtain ⟨a, ha⟩ : ∃ a, ls[i]? = some a := ⟨_, List.getElem?_eq_getElem hi2⟩
    obtain ⟨b, hb⟩ : ∃ b, vs[i]? = some b := ⟨_, List.getElem?_eq_getElem (by omega)⟩
    have hz' : (ls.zip vs)[i]? = some (a, b) := by rw [List.getElem?_zip_eq_some]; exact ⟨ha, hb⟩
    refine ⟨(ls.zip vs).take (i + 1), rfl, ?_⟩
    have na : a ∉ q.map (·.1) := by
      rw [hq, List.map_take, zip_keys he.symm]
      intro z
      obtain ⟨j, hj⟩ := List.getElem?_of_mem z
      rw [List.getElem?_take] at hj
      split at hj
      · have := (List.getElem?_inj (List.getElem?_eq_some_iff.mp hj).1 hn).mp (hj.trans ha.symm)
        omega
      · cases hj
    have e1 : putA (Sum.inr a : Key) (.str b) (kd q) = kd ((ls.zip vs).take (i + 1)) := by
      rw [kd_put, putA_new na, hq, List.take_succ, hz']
      rfl
    have lq : (kd q).length < 16777216 := by
      rw [kd_len, hq, List.length_take, List.length_zip]
      omega
    have e2 : (T.set nm (.dct false (kd q))).set nm (.dct false (kd ((ls.zip vs).take (i + 1)))) = T.set nm (.dct false (kd ((ls.zip vs).take (i + 1)))) := List.set_set _
    have l1 := gl (.dct false (kd q))
    have l2 := gi (.dct false (kd q))
    have l3 := gm (.dct false (kd q))
    generalize T.set nm (.dct false (kd ((ls.zip vs).take (i + 1)))) = U' at e2 ⊢
    generalize T.set nm (.dct false (kd q)) = U at e2 l1 l2 l3 ⊢
    simp [l1, l2, l3, sd_get ha, sd_get hb, lq, e1, e2]
theorem perm2 (hl : T[nl]? = some (.lst (sd ls))) (hi : T[ni]? = some (.lst (sd vs))) (h1 : nm ≠ nl) (h2 : nm ≠ ni) (hm : nm < T.length) (hn : ls.Nodup) (hp : vs.Perm ls) (hz : ls.length < 100) {q0 : Pm} (hq0 : q0.map (·.1) = ls) :
    ∃ o q, MapOk ls q ∧ evS F (.for_ (.nm 8) (.range (.cons (.bf .len (.cons (.var 5) (.nil))) (.nil))) (.cons (.asg (.sub (.var 7) (.ix (.var 5) (.bin .Sub (.var 8) (.con (.int 1))))) (.ix (.var 5) (.var 8))) (.nil))) (lEnv d0 d1 d2 d3 d6 nl ni nm o8 o9) (T.set nm (.dct false (kd q0))) =
      .nx (lEnv d0 d1 d2 d3 d6 nl ni nm o o9) (T.set nm (.dct false (kd q))) := by
  have he := hp.length_eq
  have gi : ∀ c, (T.set nm c)[ni]? = some (.lst (sd vs)) := fun c => by rw [set_get' h2]; exact hi
  have gm : ∀ c, (T.set nm c)[nm]? = some c := fun c => set_get hm
  have hnv : vs.Nodup := hp.nodup_iff.mpr hn
  have key := pm_loop (src := .free) (f := fun x ρ S => (asgT F (.nm 8) x ρ S).bindS (fun ρ' S' => evSs F (.cons (.asg (.sub (.var 7) (.ix (.var 5) (.bin .Sub (.var 8) (.con (.int 1))))) (.ix (.var 5) (.var 8))) (.nil)) ρ' S')) (xs := rangeL 0 vs.length) (ρ := lEnv d0 d1 d2 d3 d6 nl ni nm o8 o9) (T := T) (v := 8) (nm := nm)
    (fun i q => q.map (·.1) = ls ∧ ∀ j x, j < i → vs[j]? = some x → (0 < j → ∀ y, vs[j - 1]? = some y → im q y = x) ∧ (j = 0 → ∀ y, vs[vs.length - 1]? = some y → im q y = x)) (q0 := q0) (o0 := o8) ⟨hq0, fun j x hj => by omega⟩ (fun _ => rfl) (fun i x q o hq hx => ?_)
  · obtain ⟨q, o, ⟨hq1, hq2⟩, e⟩ := key
    rw [rangeL_len] at hq2
    refine ⟨o, q, map_rot hn hp hq1 fun i x hx => hq2 i x (List.getElem?_eq_some_iff.mp hx).1 hx, ?_⟩
    have ei : evI F (.range (.cons (.bf .len (.cons (.var 5) (.nil))) (.nil))) (lEnv d0 d1 d2 d3 d6 nl ni nm o8 o9) (T.set nm (.dct false (kd q0))) = .ok (rangeL 0 vs.length, .free) (T.set nm (.dct false (kd q0))) := by
      have l := len_loc (gi (.dct false (kd q0)))
      rw [sd_len] at l
      generalize T.set nm (.dct false (kd q0)) = U at l
      simp [l, range_n (show vs.length < 10 ^ 9 by omega)]
    rw [st_for', ei]
    exact e
  · obtain ⟨rfl, hi2⟩ := rangeL_get hx
    rw [Int.zero_add]
    obtain ⟨hq1, hq2⟩ := hq
    obtain ⟨b, hb⟩ : ∃ b, vs[i]? = some b := ⟨_, List.getElem?_eq_getElem hi2⟩
    -- the key: the one before, or the last
    obtain ⟨a, ha, hk⟩ : ∃ a, ixAt (sd vs) ((i : Int) - 1) = some (.str a) ∧ (0 < i → vs[i - 1]? = some a) ∧ (i = 0 → vs[vs.length - 1]? = some a) ∧ a ∈ vs := by
      by_cases c : 0 < i
      · obtain ⟨a, ha⟩ : ∃ a, vs[i - 1]? = some a := ⟨_, List.getElem?_eq_getElem (by omega)⟩
        refine ⟨a, ?_, fun _ => ha, fun z => by omega, List.mem_of_getElem? ha⟩
        have : (i : Int) - 1 = ((i - 1 : Nat) : Int) := by omega
        rw [this, ixAt_nat, sd_get ha]
      · obtain ⟨a, ha⟩ : ∃ a, vs[vs.length - 1]? = some a := ⟨_, List.getElem?_eq_getElem (by omega)⟩
        refine ⟨a, ?_, fun z => by omega, fun _ => ha, List.mem_of_getElem? ha⟩
        have e0 : i = 0 := by omega
        subst e0
        show (L2.ixN (sd vs).length (((0 : Nat) : Int) - 1)).bind (fun j => (sd vs)[j]?) = _
        have : L2.ixN (sd vs).length (((0 : Nat) : Int) - 1) = some (vs.length - 1) := by
          unfold L2.ixN
          rw [sd_len, if_neg (by omega), if_pos (by omega)]
          congr 1
          omega
        rw [this]
        exact sd_get ha
    have ka : a ∈ q.map (·.1) := by rw [hq1]; exact hp.subset hk.2.2
    refine ⟨putA a b q, ⟨by rw [putA_keys ka, hq1], fun j x hj hjx => ?_⟩, ?_⟩
    · have ln : ∀ {m : Nat}, vs[m]? = some a → ∀ {n : Nat} {y : Str}, vs[n]? = some y → m ≠ n → y ≠ a := fun {m} h1 {n} {y} h2 ne e => by
        subst e
        exact ne ((List.getElem?_inj (List.getElem?_eq_some_iff.mp h1).1 hnv).mp (h1.trans h2.symm))
      by_cases c : j = i
      · subst c
        have : x = b := Option.some.inj (hjx.symm.trans hb)
        subst this
        refine ⟨fun h0 y hy => ?_, fun h0 y hy => ?_⟩
        · have : y = a := Option.some.inj (hy.symm.trans (hk.1 h0))
          rw [im_put, if_pos this]
        · have : y = a := Option.some.inj (hy.symm.trans (hk.2.1 h0))
          rw [im_put, if_pos this]
      · have old := hq2 j x (by omega) hjx
        refine ⟨fun h0 y hy => ?_, fun h0 y hy => ?_⟩
        · have : y ≠ a := ln (hk.1 (by omega)) hy (by omega)
          rw [im_put, if_neg this]
          exact old.1 h0 y hy
        · have : y ≠ a := ln (hk.1 (by omega)) hy (by omega)
          rw [im_put, if_neg this]
          exact old.2 h0 y hy
    · have lq : (kd q).length < 16777216 := by
        rw [kd_len, key_len hq1]
        omega
      have e2 : (T.set nm (.dct false (kd q))).set nm (.dct false (kd (putA a b q))) = T.set nm (.dct false (kd (putA a b q))) := List.set_set _
      have l2 := gi (.dct false (kd q))
      have l3 := gm (.dct false (kd q))
      generalize T.set nm (.dct false (kd (putA a b q))) = U' at e2 ⊢
      generalize T.set nm (.dct false (kd q)) = U at e2 l2 l3 ⊢
      simp [l2, l3, ha, sd_get hb, lq, kd_put, e2]
theorem perm3 (hl : T[nl]? = some (.lst (sd ls))) (h1 : nm ≠ nl) (hm : nm < T.length) (hz : ls.length < 100) {q0 : Pm} (hq0 : q0.map (·.1) = ls) :
    ∃ o q, q.map (·.1) = ls ∧ (∀ x ∈ ls, im q x = x) ∧ evS F (.for_ (.nm 9) (.val (.var 4)) (.cons (.asg (.sub (.var 7) (.var 9)) (.var 9)) (.nil))) (lEnv d0 d1 d2 d3 d6 nl ni nm o8 o9) (T.set nm (.dct false (kd q0))) =
      .nx (lEnv d0 d1 d2 d3 d6 nl ni nm o8 o) (T.set nm (.dct false (kd q))) := by
  have gl : ∀ c, (T.set nm c)[nl]? = some (.lst (sd ls)) := fun c => by rw [set_get' h1]; exact hl
  have gm : ∀ c, (T.set nm c)[nm]? = some c := fun c => set_get hm
  have key := pm_loop (src := .lst nl (sd ls)) (f := fun x ρ S => (asgT F (.nm 9) x ρ S).bindS (fun ρ' S' => evSs F (.cons (.asg (.sub (.var 7) (.var 9)) (.var 9)) (.nil)) ρ' S')) (xs := sd ls) (ρ := lEnv d0 d1 d2 d3 d6 nl ni nm o8 o9) (T := T) (v := 9) (nm := nm)
    (fun i q => q.map (·.1) = ls ∧ ∀ j x, j < i → ls[j]? = some x → im q x = x) (q0 := q0) (o0 := o9) ⟨hq0, fun j x hj => by omega⟩ (fun q => decide_eq_true (by unfold lstAt; rw [gl])) (fun i x q o hq hx => ?_)
  · obtain ⟨q, o, ⟨hq1, hq2⟩, e⟩ := key
    rw [sd_len] at hq2
    refine ⟨o, q, hq1, fun x hx => ?_, ?_⟩
    · obtain ⟨j, hj⟩ := List.getElem?_of_mem hx
      exact hq2 j x (List.getElem?_eq_some_iff.mp hj).1 hj
    · have ei : evI F (.val (.var 4)) (lEnv d0 d1 d2 d3 d6 nl ni nm o8 o9) (T.set nm (.dct false (kd q0))) = .ok (sd ls, .lst nl (sd ls)) (T.set nm (.dct false (kd q0))) := by
        have l := gl (.dct false (kd q0))
        generalize T.set nm (.dct false (kd q0)) = U at l
        simp [walkOf, seqOf, lstAt, l, srcOf]
      rw [st_for', ei]
      exact e
  · obtain ⟨a, ha, rfl⟩ := sd_get' hx
    obtain ⟨hq1, hq2⟩ := hq
    have ka : a ∈ q.map (·.1) := by rw [hq1]; exact List.mem_of_getElem? ha
    refine ⟨putA a a q, ⟨by rw [putA_keys ka, hq1], fun j x hj hjx => ?_⟩, ?_⟩
    · rw [im_put]
      split
      · next z => exact z.symm
      · next z =>
        refine hq2 j x ?_ hjx
        by_cases c : j = i
        · subst c
          exact absurd (Option.some.inj (hjx.symm.trans ha)) z
        · omega
    · have lq : (kd q).length < 16777216 := by
        rw [kd_len, key_len hq1]
        omega
      have e2 : (T.set nm (.dct false (kd q))).set nm (.dct false (kd (putA a a q))) = T.set nm (.dct false (kd (putA a a q))) := List.set_set _
      have l3 := gm (.dct false (kd q))
      generalize T.set nm (.dct false (kd (putA a a q))) = U' at e2 ⊢
      generalize T.set nm (.dct false (kd q)) = U at e2 l3 ⊢
      simp [l3, lq, kd_put, e2]
end
end Iv

set_option maxRecDepth 100000
namespace Iv
open PySem
theorem range_2 : ∀ n : Nat, n < 100 → rangeOf [.int 0, .int ((n : Int) - 1), .int 2] = some (range3 0 2 (n / 2)) := by decide +kernel
section
variable {F : Fns} {T : Store} {nl ni nm : Nat} {ls vs : List Str} {d0 d1 d2 d3 : D} {o8 o9 : Option D}
abbrev p4if : ISs := (.cons (.ife (.or (.cmp .Eq (.var 6) (.con (.int 2))) (.one (.and (.cmp .Eq (.var 6) (.con (.int 3))) (.one (.cmp .Lt (.var 8) (.con (.int 4))))))) (.cons (.asg (.sub (.var 7) (.ix (.var 5) (.var 8))) (.ix (.var 5) (.bin .Add (.var 8) (.con (.int 1))))) (.cons (.asg (.sub (.var 7) (.ix (.var 5) (.bin .Add (.var 8) (.con (.int 1))))) (.ix (.var 5) (.var 8))) (.nil))) (.nil)) (.nil))
abbrev p4lp : IS := .for_ (.nm 8) (.range (.cons (.con (.int 0)) (.cons (.bin .Sub (.bf .len (.cons (.var 5) (.nil))) (.con (.int 1))) (.cons (.con (.int 2)) (.nil))))) p4if
theorem perm4 {w : Int} (hi : T[ni]? = some (.lst (sd vs))) (h2 : nm ≠ ni) (hm : nm < T.length) (hn : ls.Nodup) (hp : vs.Perm ls) (hz : ls.length < 100) {q0 : Pm} (hq0 : MapOk ls q0) (hid : ∀ x ∈ ls, im q0 x = x) :
    ∃ o q, MapOk ls q ∧ evS F p4lp (lEnv d0 d1 d2 d3 (.int w) nl ni nm o8 o9) (T.set nm (.dct false (kd q0))) =
      .nx (lEnv d0 d1 d2 d3 (.int w) nl ni nm o o9) (T.set nm (.dct false (kd q))) := by
  have he := hp.length_eq
  have gi : ∀ c, (T.set nm c)[ni]? = some (.lst (sd vs)) := fun c => by rw [set_get' h2]; exact hi
  have gm : ∀ c, (T.set nm c)[nm]? = some c := fun c => set_get hm
  have hnv : vs.Nodup := hp.nodup_iff.mpr hn
  have key := pm_loop (src := .free) (f := fun x ρ S => (asgT F (.nm 8) x ρ S).bindS (fun ρ' S' => evSs F p4if ρ' S')) (xs := range3 0 2 (vs.length / 2)) (ρ := lEnv d0 d1 d2 d3 (.int w) nl ni nm o8 o9) (T := T) (v := 8) (nm := nm)
    (fun i q => MapOk ls q ∧ ∀ x ∈ vs.drop (2 * i), im q x = x) (q0 := q0) (o0 := o8) ⟨hq0, fun x hx => hid x (hp.subset (List.drop_subset _ _ hx))⟩ (fun _ => rfl) (fun i x q o hq hx => ?_)
  · obtain ⟨q, o, ⟨hq1, hq2⟩, e⟩ := key
    refine ⟨o, q, hq1, ?_⟩
    have ei : evI F (.range (.cons (.con (.int 0)) (.cons (.bin .Sub (.bf .len (.cons (.var 5) (.nil))) (.con (.int 1))) (.cons (.con (.int 2)) (.nil))))) (lEnv d0 d1 d2 d3 (.int w) nl ni nm o8 o9) (T.set nm (.dct false (kd q0))) = .ok (range3 0 2 (vs.length / 2), .free) (T.set nm (.dct false (kd q0))) := by
      have l := len_loc (gi (.dct false (kd q0)))
      rw [sd_len] at l
      generalize T.set nm (.dct false (kd q0)) = U at l
      simp [l, range_2 _ (show vs.length < 100 by omega)]
    rw [st_for', ei]
    exact e
  · obtain ⟨hq1, hq2⟩ := hq
    rw [range3_at] at hx
    split at hx
    · next hi2 =>
      cases hx
      rw [Int.zero_add]
      have ec : ((i : Nat) : Int) * 2 = ((2 * i : Nat) : Int) := by omega
      rw [ec]
      obtain ⟨a, ha⟩ : ∃ a, vs[2 * i]? = some a := ⟨_, List.getElem?_eq_getElem (by omega)⟩
      obtain ⟨b, hb⟩ : ∃ b, vs[2 * i + 1]? = some b := ⟨_, List.getElem?_eq_getElem (by omega)⟩
      have ka : a ∈ ls := hp.subset (List.mem_of_getElem? ha)
      have kb : b ∈ ls := hp.subset (List.mem_of_getElem? hb)
      have hab : a ≠ b := fun e => by
        subst e
        have := (List.getElem?_inj (List.getElem?_eq_some_iff.mp ha).1 hnv).mp (ha.trans hb.symm)
        omega
      have dr : ∀ {m x}, vs[m]? = some x → 2 * i ≤ m → x ∈ vs.drop (2 * i) := fun {m x} h1 h2 => by
        refine List.mem_of_getElem? (i := m - 2 * i) ?_
        rw [List.getElem?_drop]
        rw [← h1]
        congr 1
        omega
      have fa := hq2 a (dr ha (by omega))
      have fb := hq2 b (dr hb (by omega))
      have lq : ∀ q : Pm, q.map (·.1) = ls → (kd q).length < 16777216 := fun q h => by
        rw [kd_len, key_len h]
        omega
      have hc : ∃ c, evE F (.or (.cmp .Eq (.var 6) (.con (.int 2))) (.one (.and (.cmp .Eq (.var 6) (.con (.int 3))) (.one (.cmp .Lt (.var 8) (.con (.int 4))))))) (lEnv d0 d1 d2 d3 (.int w) nl ni nm (some (.int (2 * i : Nat))) o9) (T.set nm (.dct false (kd q))) = .ok (.bl c) (T.set nm (.dct false (kd q))) := by
        generalize T.set nm (.dct false (kd q)) = U
        generalize ((2 * i : Nat) : Int) = j
        by_cases w2 : w = 2
        · exact ⟨true, by simp [w2]⟩
        · by_cases w3 : w = 3
          · exact ⟨decide (j < 4), by simp [w3]⟩
          · exact ⟨false, by simp [w2, w3]⟩
      obtain ⟨c, hc⟩ := hc
      cases c with
      | false =>
        refine ⟨q, ⟨hq1, fun x hx => hq2 x (List.drop_subset_drop_left _ (by omega) hx)⟩, ?_⟩
        generalize T.set nm (.dct false (kd q)) = U at hc ⊢
        generalize ((2 * i : Nat) : Int) = jj at hc ⊢
        simp [-ev_or, hc, tru]
      | true =>
        obtain ⟨m1, m2⟩ := map_ex hq1 ka kb hab fa fb
        refine ⟨putA b a (putA a b q), ⟨m1, fun x hx => ?_⟩, ?_⟩
        · obtain ⟨j, hj⟩ := List.getElem?_of_mem hx
          rw [List.getElem?_drop] at hj
          have lj := (List.getElem?_eq_some_iff.mp hj).1
          rw [m2 x (fun e => by
            rw [e] at hj
            have := (List.getElem?_inj lj hnv).mp (hj.trans ha.symm)
            omega) (fun e => by
            rw [e] at hj
            have := (List.getElem?_inj lj hnv).mp (hj.trans hb.symm)
            omega)]
          exact hq2 x (dr hj (by omega))
        · have k1 : (putA a b q).map (·.1) = ls := by rw [putA_keys (by rw [hq1.ks]; exact ka), hq1.ks]
          have z1 := lq q hq1.ks
          have z2 := lq _ k1
          have e2 : (T.set nm (.dct false (kd q))).set nm (.dct false (kd (putA a b q))) = T.set nm (.dct false (kd (putA a b q))) := List.set_set _
          have e3 : (T.set nm (.dct false (kd (putA a b q)))).set nm (.dct false (kd (putA b a (putA a b q)))) = T.set nm (.dct false (kd (putA b a (putA a b q)))) := List.set_set _
          have l2 := gi (.dct false (kd q))
          have l3 := gm (.dct false (kd q))
          have l4 := gi (.dct false (kd (putA a b q)))
          have l5 := gm (.dct false (kd (putA a b q)))
          have ix1 : ixAt (sd vs) (((2 * i : Nat) : Int)) = some (.str a) := by rw [ixAt_nat, sd_get ha]
          have ix2 : ixAt (sd vs) (((2 * i : Nat) : Int) + 1) = some (.str b) := by
            have : ((2 * i : Nat) : Int) + 1 = ((2 * i + 1 : Nat) : Int) := by omega
            rw [this, ixAt_nat, sd_get hb]
          generalize ((2 * i : Nat) : Int) = jj at hc ix1 ix2 ⊢
          generalize T.set nm (.dct false (kd (putA b a (putA a b q)))) = U2 at e3 ⊢
          generalize T.set nm (.dct false (kd (putA a b q))) = U1 at e2 e3 l4 l5
          generalize T.set nm (.dct false (kd q)) = U at e2 l2 l3 hc ⊢
          simp [-ev_or, hc, tru, l2, l3, l4, l5, ix1, ix2, z1, z2, kd_put, e2, e3]
    · cases hx
end
end Iv

set_option maxRecDepth 100000
namespace Iv
open PySem
abbrev lp1 : IS := .asg (.nm 2) (.call i__law_draw (.cons (.var 0) (.cons (.bin .Add (.var 1) (.con (.int 1))) (.nil))))
abbrev lp2 : IS := .asg (.nm 3) (.lst (.cons (.con (.str "a")) (.cons (.con (.str "b")) (.cons (.con (.str "B")) (.cons (.con (.str "ab")) (.cons (.con (.str "zz")) (.cons (.con (.str "C")) (.cons (.con (.str "x")) (.cons (.con (.str "aa")) (.cons (.con (.str "Aa")) (.cons (.con (.str "q")) (.cons (.con (.str "r")) (.cons (.con (.str "Zz")) (.nil))))))))))))))
abbrev lp3 : IS := .asg (.nm 3) (.bin .Add (.var 3) (.lst (.cons (.con (.str "abc")) (.cons (.con (.str "abd")) (.cons (.con (.str "Abcdef")) (.cons (.con (.str "abcdef")) (.cons (.con (.str "A")) (.cons (.con (.str "abcd")) (.nil)))))))))
abbrev lp4 : IS := .asg (.nm 4) (.bin .Add (.lst (.cons (.con (.str "")) (.nil))) (.slc (.call i__law_shuffled (.cons (.var 0) (.cons (.var 3) (.nil)))) (.none) (.some (.var 2))))
abbrev lp5 : IS := .asg (.nm 5) (.call i__law_shuffled (.cons (.var 0) (.cons (.var 4) (.nil))))
abbrev lp6 : IS := .asg (.nm 6) (.call i__law_draw (.cons (.var 0) (.cons (.con (.int 5)) (.nil))))
abbrev lp7 : IS := .asg (.nm 7) (.dsp (.nil) (.nil))
abbrev lp8 : IS := .for_ (.nm 8) (.range (.cons (.bf .len (.cons (.var 4) (.nil))) (.nil))) (.cons (.asg (.sub (.var 7) (.ix (.var 4) (.var 8))) (.ix (.var 5) (.var 8))) (.nil))
abbrev lp9 : IS := .ife (.cmp .Eq (.var 6) (.con (.int 1))) (.cons (.for_ (.nm 8) (.range (.cons (.bf .len (.cons (.var 5) (.nil))) (.nil))) (.cons (.asg (.sub (.var 7) (.ix (.var 5) (.bin .Sub (.var 8) (.con (.int 1))))) (.ix (.var 5) (.var 8))) (.nil))) (.nil)) (.nil)
abbrev lp10 : IS := .ife (.cmp .Gt (.var 6) (.con (.int 1))) (.cons (.for_ (.nm 9) (.val (.var 4)) (.cons (.asg (.sub (.var 7) (.var 9)) (.var 9)) (.nil))) (.cons (.for_ (.nm 8) (.range (.cons (.con (.int 0)) (.cons (.bin .Sub (.bf .len (.cons (.var 5) (.nil))) (.con (.int 1))) (.cons (.con (.int 2)) (.nil))))) (.cons (.ife (.or (.cmp .Eq (.var 6) (.con (.int 2))) (.one (.and (.cmp .Eq (.var 6) (.con (.int 3))) (.one (.cmp .Lt (.var 8) (.con (.int 4))))))) (.cons (.asg (.sub (.var 7) (.ix (.var 5) (.var 8))) (.ix (.var 5) (.bin .Add (.var 8) (.con (.int 1))))) (.cons (.asg (.sub (.var 7) (.ix (.var 5) (.bin .Add (.var 8) (.con (.int 1))))) (.ix (.var 5) (.var 8))) (.nil))) (.nil)) (.nil))) (.nil))) (.nil)
abbrev lp11 : IS := .ret (.some (.bf .tuple (.cons (.lc (.tup (.cons (.var 9) (.cons (.ix (.var 7) (.var 9)) (.nil)))) (.nm 9) (.val (.bf .sorted (.cons (.var 4) (.nil)))) (.none)) (.nil))))
theorem lpbody : f__law_permutation = ⟨2, 10, .cons lp1 (.cons lp2 (.cons lp3 (.cons lp4 (.cons lp5 (.cons lp6 (.cons lp7 (.cons lp8 (.cons lp9 (.cons lp10 (.cons lp11 (.nil)))))))))))⟩ := rfl
theorem not_lt_le (x y : Str) : (!ltStr y x) = leStr x y := by
  unfold ltStr leStr
  by_cases h : y.cps.toList < x.cps.toList
  · rw [decide_eq_true h, decide_eq_false fun z => absurd h (List.not_lt.mpr z)]
    rfl
  · rw [decide_eq_false h, decide_eq_true (List.not_lt.mp h)]
    rfl
theorem dataLe_str (x y : Str) : PySem.W.dataLe false (fun p : D × PyData => p.2) (.str x, .str x) (.str y, .str y) = leStr x y := by
  rw [← not_lt_le]
  show (!(PyProof.Rows.strKind.blt y.cps.toList x.cps.toList || (!PyProof.Rows.strKind.blt x.cps.toList y.cps.toList && false))) = _
  rw [Bool.and_false, Bool.or_false]
  rfl
theorem sortBy_sd (l : List Str) : sortBy (sd l) (l.map PyData.str) = sd (sortS l) := by
  unfold sortBy sortS
  have e : (sd l).zip (l.map PyData.str) = l.map fun x => (D.str x, PyData.str x) := by
    unfold sd
    rw [List.zip_map']
  rw [e, ← List.map_mergeSort (r := leStr) (s := PySem.W.dataLe false (·.2)) (f := fun x => (D.str x, PyData.str x)) (fun a _ b _ => (dataLe_str a b).symm), List.map_map]
  rfl
theorem sortD_sd {S : Store} {l : List Str} (h : l.length < 1000) : sortD S (sd l) = some (sd (sortS l)) := by
  unfold sortD
  rw [mapO_sd]
  have a : alikes (l.map PyData.str) = true := by
    unfold alikes
    rw [List.all_eq_true]
    intro d hd
    rw [List.all_eq_true]
    intro e he
    obtain ⟨x, _, rfl⟩ := List.mem_map.mp hd
    obtain ⟨y, _, rfl⟩ := List.mem_map.mp he
    rfl
  have b : sortable (l.map PyData.str) = true := by
    unfold sortable
    rw [Bool.or_eq_true]
    right
    rw [List.all_eq_true]
    intro d hd
    obtain ⟨x, _, rfl⟩ := List.mem_map.mp hd
    rfl
  have c : decide ((sd l).length ≤ sizeLine) = true := decide_eq_true (by rw [sd_len, sizeLine_eq]; omega)
  show (if (alikes (l.map PyData.str) && sortable (l.map PyData.str) && decide ((sd l).length ≤ sizeLine)) = true then some (sortBy (sd l) (l.map PyData.str)) else none) = _
  rw [if_pos (by rw [a, b, c]; rfl), sortBy_sd]
theorem sorted_loc {S : Store} {n : Nat} {l : List Str} (h : S[n]? = some (.lst (sd l))) (hl : l.length < 1000) : bfD .sorted [.loc n] S = .ok (.loc S.length) (S ++ [.lst (sd (sortS l))]) := by
  show (match listOf S (.loc n) with
    | some xs => match sortD S xs with
      | some ys => newC (.lst ys) S
      | none => .bad
    | none => sortK (.loc n) S) = _
  have l1 : listOf S (.loc n) = some (sd l) := by simp [listOf, lstAt, h]
  rw [l1]
  show (match sortD S (sd l) with
      | some ys => newC (.lst ys) S
      | none => .bad) = _
  rw [sortD_sd hl]
  rfl
theorem SrcC.mono {c : Cell} {m m' : Nat} (h : SrcC c m) (e : m ≤ m') : SrcC c m' := by
  obtain ⟨x, y, z, rfl, h1, h2, h3, h4⟩ := h
  exact ⟨x, y, z, rfl, h1, h2, h3, by omega⟩
theorem SrcC.cl {c : Cell} {m n : Nat} (q : SrcC c m) : c.cl n = true := by
  obtain ⟨x, y, z, rfl, _⟩ := q
  simp
theorem evss_cons {F : Fns} {s : IS} {r : ISs} {ρ : Env} {S : Store} : evSs F (.cons s r) ρ S = (evS F s ρ S).bind fun ρ' S' => evSs F r ρ' S' := rfl
theorem evss_nx {F : Fns} {s : IS} {r : ISs} {ρ ρ' : Env} {S S' : Store} (h : evS F s ρ S = .nx ρ' S') : evSs F (.cons s r) ρ S = evSs F r ρ' S' := by
  rw [evss_cons, h]
  rfl
theorem add_loc {S : Store} {m n : Nat} {xs ys : List D} (h : S[m]? = some (.lst xs)) (h2 : S[n]? = some (.lst ys)) (hz : xs.length + ys.length ≤ 16777216) : opD .Add (.loc m) (.loc n) S = .ok (.loc S.length) (S ++ [.lst (xs ++ ys)]) := by
  have hz : xs.length + ys.length ≤ sizeLine := by rw [sizeLine_eq]; exact hz
  simp only [opD, h, h2]
  rw [if_pos hz]
  rfl
theorem cls_sd (n : Nat) (l : List Str) : D.cls n (sd l) = true := by
  rw [cls_mem]
  intro y hy
  obtain ⟨z, _, rfl⟩ := List.mem_map.mp hy
  rfl
/-- behind a call that wrote the source only -/
theorem gc_src {S T : Store} {s m : Nat} {c : Cell} {d : D} (hc : SrcC c m) (hd : d.cl S.length = true) : gc S d (S.set s c ++ T) = .ok d (S.set s c) := gc_set hc.cl hd
def menu1 : List Str := ["a", "b", "B", "ab", "zz", "C", "x", "aa", "Aa", "q", "r", "Zz"]
def menu2 : List Str := ["abc", "abd", "Abcdef", "abcdef", "A", "abcd"]
def menuS : List Str := "" :: (menu1 ++ menu2)
theorem menu_nd : menuS.Nodup := by decide +kernel
/-- what the law's permutation is -/
structure LPm (p : Pm) : Prop where
  ok : PmOk p
  so : PmS p
  few : p.length < 20
  inj : Inj (im p) (p.map (·.1))
  small : ∀ x ∈ p.map (·.1), x ∈ menuS
  gap : ("" : Str) ∈ p.map (·.1)
end Iv

set_option maxRecDepth 100000
namespace Iv
open PySem
section
variable {S : Store} {s : Nat} {c : Cell}
theorem B_len {c' : Cell} {L : Store} : (S.set s c' ++ L).length = S.length + L.length := by simp
theorem B_get {c' : Cell} {L : Store} {j : Nat} : (S.set s c' ++ L)[S.length + j]? = L[j]? := by
  have := get_app (S := S.set s c') (T := L) (j := j)
  rwa [List.length_set] at this
theorem B_s (h : S[s]? = some c) {c' : Cell} {L : Store} : (S.set s c' ++ L)[s]? = some c' := get_old (List.getElem?_set_self (List.getElem?_eq_some_iff.mp h).1)
theorem B_set (h : S[s]? = some c) {c' c'' : Cell} {L : Store} : (S.set s c' ++ L).set s c'' = S.set s c'' ++ L := by
  rw [set_app (by rw [List.length_set]; exact (List.getElem?_eq_some_iff.mp h).1), List.set_set]
theorem B_app {c' : Cell} {L M : Store} : S.set s c' ++ L ++ M = S.set s c' ++ (L ++ M) := List.append_assoc _ _ _
theorem B_new {c' d : Cell} {L : Store} {j : Nat} : (S.set s c' ++ L).set (S.length + j) d = S.set s c' ++ L.set j d := by
  have := set_new (S := S.set s c') (T := L) (j := j) (c := d)
  rwa [List.length_set] at this
end
theorem seq_loc {S : Store} {n : Nat} {xs : List D} (h : S[n]? = some (.lst xs)) : seqOf S (.loc n) = some xs := by simp [seqOf, lstAt, h]
/-- the result of a list display of texts by their images -/
theorem out_ok {F : Fns} {T : Store} {nl ni nm : Nat} {ls : List Str} {q : Pm} {d0 d1 d2 d3 d6 : D} {o8 o9 : Option D} (hl : T[nl]? = some (.lst (sd ls))) (hm : T[nm]? = some (.dct false (kd q))) (hq : q.map (·.1) = ls) (hz : ls.length < 100) :
    ∃ L : Store, evE F (.bf .tuple (.cons (.lc (.tup (.cons (.var 9) (.cons (.ix (.var 7) (.var 9)) (.nil)))) (.nm 9) (.val (.bf .sorted (.cons (.var 4) (.nil)))) (.none)) (.nil))) (lEnv d0 d1 d2 d3 d6 nl ni nm o8 o9) T = .ok (.tup (pd ((sortS ls).map fun x => (x, im q x)))) (T ++ L) := by
  have hml := (List.getElem?_eq_some_iff.mp hm).1
  have so := sorted_loc hl (show ls.length < 1000 by omega)
  have hsl : (sortS ls).length = ls.length := (sortS_perm ls).length_eq
  have h := loopC_pure (src := .lst T.length (sd (sortS ls))) (f := turnC F (.tup (.cons (.var 9) (.cons (.ix (.var 7) (.var 9)) (.nil)))) (.nm 9) .none (lEnv d0 d1 d2 d3 d6 nl ni nm o8 o9)) (xs := sd (sortS ls)) (S := T ++ [.lst (sd (sortS ls))])
    (fun y => match y with | .str y => some (.tup [.str y, .str (im q y)]) | _ => none) (by have : sizeLine = 16777216 := sizeLine_eq; rw [sd_len]; omega) (fun acc => decide_eq_true (by unfold lstAt; rw [List.append_assoc, get_app0]; rfl)) (fun y hy acc => ?_) (fun y hy d hd => ?_)
  · have e : ∀ l : List Str, (sd l).filterMap (fun y => match y with | .str y => some (D.tup [.str y, .str (im q y)]) | _ => none) = pd (l.map fun x => (x, im q x)) := fun l => by
      induction l with
      | nil => rfl
      | cons y l ih =>
        show List.filterMap _ (.str y :: sd l) = _
        rw [List.filterMap_cons, ih]
        rfl
    rw [e] at h
    refine ⟨[.lst (sd (sortS ls)), .lst (pd ((sortS ls).map fun x => (x, im q x)))], ?_⟩
    have g1 : (T ++ [Cell.lst (sd (sortS ls))])[T.length]? = some (.lst (sd (sortS ls))) := by rw [get_app0]; rfl
    have ei : evI F (.val (.bf .sorted (.cons (.var 4) (.nil)))) (lEnv d0 d1 d2 d3 d6 nl ni nm o8 o9) T = .ok (sd (sortS ls), .lst T.length (sd (sortS ls))) (T ++ [.lst (sd (sortS ls))]) := by
      simp [so, walkOf, seqOf, lstAt, g1, srcOf]
    have tl := tup_loc (S := T ++ ([Cell.lst (sd (sortS ls))] ++ [.lst (pd ((sortS ls).map fun x => (x, im q x)))])) (n := T.length + 1) (xs := pd ((sortS ls).map fun x => (x, im q x))) (by rw [get_app]; rfl)
    simp only [List.length_append, List.length_singleton] at h
    simp only [ev_bf, evs_cons, evs_nil, ev_lc, ei, bind_ok, List.length_append, List.length_singleton, h]
    simp only [List.append_assoc, tl]
    rfl
  · obtain ⟨y, hy2, rfl⟩ := List.mem_map.mp hy
    refine ⟨[], ?_⟩
    have g : (T ++ ([Cell.lst (sd (sortS ls))] ++ [.lst acc]))[nm]? = some (.dct false (kd q)) := by rw [List.getElem?_append_left hml]; exact hm
    have g : (T ++ [Cell.lst (sd (sortS ls)), .lst acc])[nm]? = some (.dct false (kd q)) := g
    have ky : y ∈ q.map (·.1) := by rw [hq]; exact (sortS_perm ls).subset hy2
    simp [turnC, bindT, slotsT, wipeE, evC, g, look_kd ky]
  · obtain ⟨y, _, rfl⟩ := List.mem_map.mp hy
    cases hd
    rfl
theorem im_map {f : Str → Str} {x : Str} : ∀ {l : List Str}, x ∈ l → im (l.map fun x => (x, f x)) x = f x
  | y :: l, h => by
    show ((if y = x then some (f y) else lookA x (l.map fun x => (x, f x))).getD x) = _
    by_cases e : y = x
    · subst e
      rw [if_pos rfl]
      rfl
    · rw [if_neg e]
      exact im_map (l := l) (by
        rcases List.mem_cons.mp h with h | h
        · exact absurd h.symm e
        · exact h)
theorem lpm_of {ls : List Str} {q : Pm} (hq : MapOk ls q) (hn : ls.Nodup) (hl : ls.length < 20) (hm : ∀ x ∈ ls, x ∈ menuS) (hg : ("" : Str) ∈ ls) : LPm ((sortS ls).map fun x => (x, im q x)) := by
  have e : ((sortS ls).map fun x => (x, im q x)).map (·.1) = sortS ls := by
    rw [List.map_map]
    exact List.map_id _
  have pe := sortS_perm ls
  have nd : (sortS ls).Nodup := pe.nodup_iff.mpr hn
  have sl := pe.length_eq
  refine ⟨⟨by rw [e]; exact nd, fun l hl => ?_, by rw [List.length_map]; omega⟩, by unfold PmS; rw [e]; exact sortS_sorted ls, by rw [List.length_map]; omega, fun x hx y hy h => ?_, fun x hx => hm x (pe.subset (by rwa [e] at hx)), by rw [e]; exact pe.symm.subset hg⟩
  · rw [e] at hl ⊢
    rw [im_map hl]
    exact pe.symm.subset (hq.into l (pe.subset hl))
  · rw [e] at hx hy
    rw [im_map hx, im_map hy] at h
    exact hq.inj x (pe.subset hx) y (pe.subset hy) h
theorem lperm_ok {Γ : Nat → Option FDef} {k : Nat} (h : Γ i__law_permutation = some f__law_permutation) (h1 : Γ i__law_shuffled = some f__law_shuffled) (h2 : Γ i__law_draw = some f__law_draw) {S : Store} {s m : Nat} {c : Cell} (hs : S[s]? = some c) (hc : SrcC c m) (hm : m < 10 ^ 14) :
    ∃ p c', LPm p ∧ SrcC c' (m + 1000) ∧ callN Γ (k + 3) i__law_permutation [.loc s, .int 12] S = .ok (.tup (pd p)) (S.set s c') := by
  have hsl := (List.getElem?_eq_some_iff.mp hs).1
  obtain ⟨r, c1, r1, hc1, d1⟩ := draw_ok (k := k + 1) h2 hs hc (by omega) (b := 13) (by omega) (by omega)
  have d1 : callN Γ (k + 2) i__law_draw [.loc s, .int 13] S = .ok (.int (r : Nat)) (S.set s c1) := d1
  let e : Store := [.lst (sd menu1), .lst (sd menu2), .lst (sd (menu1 ++ menu2)), .lst (sd [""])]
  have he : e = [.lst (sd menu1), .lst (sd menu2), .lst (sd (menu1 ++ menu2)), .lst (sd [""])] := rfl
  obtain ⟨ys, c2, p2, hc2, q2⟩ := shuf_ok (k := k) h1 h2 (S := S.set s c1 ++ e) (B_s hs) hc1 (d := .loc (S.length + 2)) (xs := sd (menu1 ++ menu2)) (seq_loc (by rw [B_get]; rfl)) (cls_sd _ _) (by rw [sd_len]; decide) (by rw [sd_len]; have : (menu1 ++ menu2).length = 18 := rfl; omega)
  rw [B_set hs, B_app, B_len] at q2
  obtain ⟨l2, rfl, pl⟩ := perm_sd p2
  have s1 : evS (callN Γ (k + 2)) lp1 [some (.loc s), some (.int 12), none, none, none, none, none, none, none, none] S = .nx [some (.loc s), some (.int 12), some (.int r), none, none, none, none, none, none, none] (S.set s c1) := by
    simp [d1]
  have s2 : evS (callN Γ (k + 2)) lp2 [some (.loc s), some (.int 12), some (.int r), none, none, none, none, none, none, none] (S.set s c1) = .nx [some (.loc s), some (.int 12), some (.int r), some (.loc S.length), none, none, none, none, none, none] (S.set s c1 ++ [.lst (sd menu1)]) := by
    simp [menu1, sd]
  have s3 : evS (callN Γ (k + 2)) lp3 [some (.loc s), some (.int 12), some (.int r), some (.loc S.length), none, none, none, none, none, none] (S.set s c1 ++ [.lst (sd menu1)]) = .nx [some (.loc s), some (.int 12), some (.int r), some (.loc (S.length + 2)), none, none, none, none, none, none] (S.set s c1 ++ [.lst (sd menu1), .lst (sd menu2), .lst (sd (menu1 ++ menu2))]) := by
    have a := add_loc (S := S.set s c1 ++ [.lst (sd menu1), .lst (sd menu2)]) (m := S.length) (n := S.length + 1) (xs := sd menu1) (ys := sd menu2) (B_get (j := 0)) (by rw [B_get]; rfl) (by rw [sd_len, sd_len]; decide)
    have m2 : [D.str "abc", .str "abd", .str "Abcdef", .str "abcdef", .str "A", .str "abcd"] = sd menu2 := rfl
    have ap : S.set s c1 ++ [.lst (sd menu1)] ++ [.lst (sd menu2)] = S.set s c1 ++ [.lst (sd menu1), .lst (sd menu2)] := B_app
    have l1 : (S.set s c1 ++ [Cell.lst (sd menu1)]).length = S.length + 1 := B_len
    have l2 : (S.set s c1 ++ [Cell.lst (sd menu1), .lst (sd menu2)]).length = S.length + 2 := B_len
    rw [B_app, l2] at a
    have e3 : sd menu1 ++ sd menu2 = sd (menu1 ++ menu2) := by simp [sd]
    rw [e3] at a
    generalize S.set s c1 ++ [Cell.lst (sd menu1), .lst (sd menu2)] = U at *
    generalize S.set s c1 ++ [Cell.lst (sd menu1)] = T at *
    simp only [lp3, st_asg, ev_bin, ev_var, ev_lst, evs_cons, evs_nil, ev_con, bind_ok, m2]
    have z2 : (sd menu2).length = 6 := rfl
    simp [m2, z2, ap, l1, a]
  -- the labels
  have hr : r ≤ 12 := by omega
  let ls : List Str := ("" : Str) :: l2.take r
  have hls : ls = ("" : Str) :: l2.take r := rfl
  have l2l : l2.length = 18 := pl.length_eq.trans (by decide +kernel)
  have s4 : evS (callN Γ (k + 2)) lp4 [some (.loc s), some (.int 12), some (.int r), some (.loc (S.length + 2)), none, none, none, none, none, none] (S.set s c1 ++ [.lst (sd menu1), .lst (sd menu2), .lst (sd (menu1 ++ menu2))]) = .nx [some (.loc s), some (.int 12), some (.int r), some (.loc (S.length + 2)), some (.loc (S.length + 6)), none, none, none, none, none] (S.set s c2 ++ (e ++ [.lst (sd l2), .lst (sd (l2.take r)), .lst (sd ls)])) := by
    have a := add_loc (S := S.set s c2 ++ (e ++ [.lst (sd l2), .lst (sd (l2.take r))])) (m := S.length + 3) (n := S.length + 5) (xs := sd [""]) (ys := sd (l2.take r)) (by rw [B_get]; rfl) (by rw [B_get]; rfl) (by rw [sd_len, sd_len, List.length_take]; simp only [List.length_singleton]; omega)
    have e3 : sd [""] ++ sd (l2.take r) = sd ls := rfl
    have w0 : S.set s c1 ++ [Cell.lst (sd menu1), Cell.lst (sd menu2), Cell.lst (sd (menu1 ++ menu2))] ++ [Cell.lst (sd [""])] = S.set s c1 ++ e := B_app
    have w1 : (S.set s c1 ++ [Cell.lst (sd menu1), Cell.lst (sd menu2), Cell.lst (sd (menu1 ++ menu2))]).length = S.length + 3 := B_len
    have b := slc_loc (S := S.set s c2 ++ (e ++ [Cell.lst (sd l2)])) (n := S.length + 4) (xs := sd l2) (lo := none) (hi := some (r : Int)) (by rw [B_get]; rfl)
    have w2 : (S.set s c2 ++ (e ++ [Cell.lst (sd l2)])).length = S.length + 5 := B_len
    have w3 : (S.set s c2 ++ (e ++ [Cell.lst (sd l2), Cell.lst (sd (l2.take r))])).length = S.length + 6 := B_len
    have e4 : (sd l2).take r = sd (l2.take r) := by unfold sd; rw [List.map_take]
    rw [cut_to, e4, B_app, w2, List.append_assoc] at b
    have w4 : e ++ ([Cell.lst (sd l2)] ++ [Cell.lst (sd (l2.take r))]) = e ++ [Cell.lst (sd l2), Cell.lst (sd (l2.take r))] := rfl
    rw [w4] at b
    rw [e3, B_app, w3, List.append_assoc] at a
    have w5 : e ++ ([Cell.lst (sd l2), Cell.lst (sd (l2.take r))] ++ [Cell.lst (sd ls)]) = e ++ [Cell.lst (sd l2), Cell.lst (sd (l2.take r)), Cell.lst (sd ls)] := rfl
    rw [w5] at a
    have q2 : callN Γ (k + 2) i__law_shuffled [.loc s, .loc (S.length + 2)] (S.set s c1 ++ e) = .ok (.loc (S.length + 4)) (S.set s c2 ++ (e ++ [.lst (sd l2)])) := q2
    have z1 : [D.str ""] = sd [""] := rfl
    have z2 : (sd [""]).length = 1 := rfl
    generalize S.set s c2 ++ (e ++ [.lst (sd l2), .lst (sd (l2.take r)), .lst (sd ls)]) = U5 at *
    generalize S.set s c2 ++ (e ++ [.lst (sd l2), .lst (sd (l2.take r))]) = U4 at *
    generalize S.set s c2 ++ (e ++ [.lst (sd l2)]) = U3 at *
    generalize S.set s c1 ++ e = U2 at *
    generalize S.set s c1 ++ [Cell.lst (sd menu1), .lst (sd menu2), .lst (sd (menu1 ++ menu2))] = U1 at *
    simp [z1, z2, w0, w1, q2, b, a]
  -- the images
  let e3 : Store := e ++ [.lst (sd l2), .lst (sd (l2.take r)), .lst (sd ls)]
  have he3 : e3 = e ++ [.lst (sd l2), .lst (sd (l2.take r)), .lst (sd ls)] := rfl
  rw [← he3] at s4
  have lsl : ls.length = r + 1 := by rw [hls, List.length_cons, List.length_take]; omega
  obtain ⟨ys, c3, p3, hc3, q3⟩ := shuf_ok (k := k) h1 h2 (S := S.set s c2 ++ e3) (B_s hs) hc2 (d := .loc (S.length + 6)) (xs := sd ls) (seq_loc (by rw [B_get]; rfl)) (cls_sd _ _) (by rw [sd_len]; omega) (by rw [sd_len, sd_len, lsl]; have : (menu1 ++ menu2).length = 18 := rfl; omega)
  rw [B_set hs, B_app, B_len] at q3
  obtain ⟨vs, rfl, pv⟩ := perm_sd p3
  have q3 : callN Γ (k + 2) i__law_shuffled [.loc s, .loc (S.length + 6)] (S.set s c2 ++ e3) = .ok (.loc (S.length + 7)) (S.set s c3 ++ (e3 ++ [.lst (sd vs)])) := q3
  have s5 : evS (callN Γ (k + 2)) lp5 [some (.loc s), some (.int 12), some (.int r), some (.loc (S.length + 2)), some (.loc (S.length + 6)), none, none, none, none, none] (S.set s c2 ++ e3) = .nx [some (.loc s), some (.int 12), some (.int r), some (.loc (S.length + 2)), some (.loc (S.length + 6)), some (.loc (S.length + 7)), none, none, none, none] (S.set s c3 ++ (e3 ++ [.lst (sd vs)])) := by
    generalize S.set s c3 ++ (e3 ++ [.lst (sd vs)]) = U at *
    generalize S.set s c2 ++ e3 = V at *
    simp [q3]
  -- the way
  have ml : (menu1 ++ menu2).length = 18 := rfl
  rw [sd_len, ml] at hc2 hc3
  rw [sd_len, lsl] at hc3
  obtain ⟨w, c4, w5, hc4, q4⟩ := draw_ok (k := k + 1) h2 (S := S.set s c3 ++ (e3 ++ [.lst (sd vs)])) (B_s hs) hc3 (by omega) (b := 5) (by omega) (by omega)
  rw [B_set hs] at q4
  have q4 : callN Γ (k + 2) i__law_draw [.loc s, .int 5] (S.set s c3 ++ (e3 ++ [.lst (sd vs)])) = .ok (.int (w : Nat)) (S.set s c4 ++ (e3 ++ [.lst (sd vs)])) := q4
  have s6 : evS (callN Γ (k + 2)) lp6 [some (.loc s), some (.int 12), some (.int r), some (.loc (S.length + 2)), some (.loc (S.length + 6)), some (.loc (S.length + 7)), none, none, none, none] (S.set s c3 ++ (e3 ++ [.lst (sd vs)])) = .nx [some (.loc s), some (.int 12), some (.int r), some (.loc (S.length + 2)), some (.loc (S.length + 6)), some (.loc (S.length + 7)), some (.int w), none, none, none] (S.set s c4 ++ (e3 ++ [.lst (sd vs)])) := by
    generalize S.set s c4 ++ (e3 ++ [.lst (sd vs)]) = U at *
    generalize S.set s c3 ++ (e3 ++ [.lst (sd vs)]) = V at *
    simp [q4]
  have s7 : evS (callN Γ (k + 2)) lp7 [some (.loc s), some (.int 12), some (.int r), some (.loc (S.length + 2)), some (.loc (S.length + 6)), some (.loc (S.length + 7)), some (.int w), none, none, none] (S.set s c4 ++ (e3 ++ [.lst (sd vs)])) = .nx (lEnv (.loc s) (.int 12) (.int r) (.loc (S.length + 2)) (.int w) (S.length + 6) (S.length + 7) (S.length + 8) none none) (S.set s c4 ++ (e3 ++ [.lst (sd vs), .dct false (kd [])])) := by
    have w0 : S.set s c4 ++ (e3 ++ [Cell.lst (sd vs)]) ++ [.dct false []] = S.set s c4 ++ (e3 ++ [.lst (sd vs), .dct false (kd [])]) := by simp [kd]
    have w1 : (S.set s c4 ++ (e3 ++ [Cell.lst (sd vs)])).length = S.length + 8 := B_len
    generalize S.set s c4 ++ (e3 ++ [.lst (sd vs), .dct false (kd [])]) = U at *
    generalize S.set s c4 ++ (e3 ++ [.lst (sd vs)]) = V at *
    simp [w0, w1]
  -- the loops
  generalize hT : S.set s c4 ++ (e3 ++ [Cell.lst (sd vs), .dct false (kd [])]) = T at s7
  have gl : T[S.length + 6]? = some (.lst (sd ls)) := by rw [← hT, B_get]; rfl
  have gi : T[S.length + 7]? = some (.lst (sd vs)) := by rw [← hT, B_get]; rfl
  have gm : T[S.length + 8]? = some (.dct false (kd [])) := by rw [← hT, B_get]; rfl
  have tl : T.length = S.length + 9 := by rw [← hT, B_len]; rfl
  have ts : ∀ q : Pm, T.set (S.length + 8) (.dct false (kd q)) = S.set s c4 ++ (e3 ++ [Cell.lst (sd vs), .dct false (kd q)]) := fun q => by rw [← hT, B_new]; rfl
  have t0 : T.set (S.length + 8) (.dct false (kd [])) = T := by rw [ts, hT]
  have lnd : ls.Nodup := by
    obtain ⟨n1, n2⟩ := List.nodup_cons.mp menu_nd
    rw [hls]
    refine List.nodup_cons.mpr ⟨fun z => n1 (pl.subset (List.mem_of_mem_take z)), ?_⟩
    exact ((pl.nodup_iff.mpr n2).sublist (List.take_sublist _ _))
  have lsm : ∀ x ∈ ls, x ∈ menuS := fun x hx => by
    rw [hls] at hx
    rcases List.mem_cons.mp hx with hx | hx
    · rw [hx]; exact List.mem_cons_self
    · exact List.mem_cons_of_mem _ (pl.subset (List.mem_of_mem_take hx))
  obtain ⟨o8, s8⟩ := perm1 (F := callN Γ (k + 2)) (T := T) (nl := S.length + 6) (ni := S.length + 7) (nm := S.length + 8) (d0 := .loc s) (d1 := .int 12) (d2 := .int r) (d3 := .loc (S.length + 2)) (d6 := .int w) (o8 := none) (o9 := none) gl gi (by omega) (by omega) (by omega) lnd pv.length_eq (by omega)
  rw [t0] at s8
  have m8 := map_zip lnd pv
  obtain ⟨o9, q9, m9, s9⟩ : ∃ o q, MapOk ls q ∧ evS (callN Γ (k + 2)) lp9 (lEnv (.loc s) (.int 12) (.int r) (.loc (S.length + 2)) (.int w) (S.length + 6) (S.length + 7) (S.length + 8) o8 none) (T.set (S.length + 8) (.dct false (kd (ls.zip vs)))) = .nx (lEnv (.loc s) (.int 12) (.int r) (.loc (S.length + 2)) (.int w) (S.length + 6) (S.length + 7) (S.length + 8) o none) (T.set (S.length + 8) (.dct false (kd q))) := by
    by_cases c : (w : Int) = 1
    · obtain ⟨o, q, m, z⟩ := perm2 (F := callN Γ (k + 2)) (T := T) (nl := S.length + 6) (ni := S.length + 7) (nm := S.length + 8) (d0 := .loc s) (d1 := .int 12) (d2 := .int r) (d3 := .loc (S.length + 2)) (d6 := .int w) (o8 := o8) (o9 := none) gl gi (by omega) (by omega) (by omega) lnd pv (by omega) m8.ks
      refine ⟨o, q, m, ?_⟩
      generalize T.set (S.length + 8) (.dct false (kd (ls.zip vs))) = U at z ⊢
      generalize T.set (S.length + 8) (.dct false (kd q)) = V at z ⊢
      rw [c] at z ⊢
      simp [-st_for', lp9, tru, z]
    · refine ⟨o8, _, m8, ?_⟩
      generalize T.set (S.length + 8) (.dct false (kd (ls.zip vs))) = U
      simp [lp9, tru, c]
  obtain ⟨o10, o11, q10, m10, s10⟩ : ∃ o o' q, MapOk ls q ∧ evS (callN Γ (k + 2)) lp10 (lEnv (.loc s) (.int 12) (.int r) (.loc (S.length + 2)) (.int w) (S.length + 6) (S.length + 7) (S.length + 8) o9 none) (T.set (S.length + 8) (.dct false (kd q9))) = .nx (lEnv (.loc s) (.int 12) (.int r) (.loc (S.length + 2)) (.int w) (S.length + 6) (S.length + 7) (S.length + 8) o o') (T.set (S.length + 8) (.dct false (kd q))) := by
    by_cases c : 1 < (w : Int)
    · obtain ⟨o, q, k1, k2, z⟩ := perm3 (F := callN Γ (k + 2)) (T := T) (nl := S.length + 6) (ni := S.length + 7) (nm := S.length + 8) (d0 := .loc s) (d1 := .int 12) (d2 := .int r) (d3 := .loc (S.length + 2)) (d6 := .int w) (o8 := o9) (o9 := none) gl (by omega) (by omega) (by omega) m9.ks
      have mq : MapOk ls q := ⟨k1, fun x hx y hy e => by rwa [k2 x hx, k2 y hy] at e, fun x hx => by rw [k2 x hx]; exact hx⟩
      obtain ⟨o', q', m', z'⟩ := perm4 (F := callN Γ (k + 2)) (T := T) (nl := S.length + 6) (ni := S.length + 7) (nm := S.length + 8) (d0 := .loc s) (d1 := .int 12) (d2 := .int r) (d3 := .loc (S.length + 2)) (w := w) (o8 := o9) (o9 := o) gi (by omega) (by omega) lnd pv (by omega) mq k2
      refine ⟨o', o, q', m', ?_⟩
      generalize T.set (S.length + 8) (.dct false (kd q9)) = U at z ⊢
      generalize T.set (S.length + 8) (.dct false (kd q)) = V at z z'
      generalize T.set (S.length + 8) (.dct false (kd q')) = W at z' ⊢
      simp [-st_for', lp10, tru, c, z, z']
    · refine ⟨o9, none, _, m9, ?_⟩
      generalize T.set (S.length + 8) (.dct false (kd q9)) = U
      simp [lp10, tru, c]
  obtain ⟨L, s11⟩ := out_ok (F := callN Γ (k + 2)) (T := T.set (S.length + 8) (.dct false (kd q10))) (nl := S.length + 6) (ni := S.length + 7) (nm := S.length + 8) (ls := ls) (q := q10) (d0 := .loc s) (d1 := .int 12) (d2 := .int r) (d3 := .loc (S.length + 2)) (d6 := .int w) (o8 := o10) (o9 := o11) (by rw [set_get' (by omega)]; exact gl) (set_get (by omega)) m10.ks (by omega)
  have lp := lpm_of m10 lnd (by omega) lsm (by rw [hls]; exact List.mem_cons_self)
  generalize (sortS ls).map (fun x => (x, im q10 x)) = p at s11 lp
  refine ⟨p, c4, lp, hc4.mono (by omega), ?_⟩
  rw [callN_eq h rfl]
  have gcl : gc S (.tup (pd p)) (T.set (S.length + 8) (.dct false (kd q10)) ++ L) = .ok (.tup (pd p)) (S.set s c4) := by
    rw [ts, List.append_assoc]
    refine gc_src hc4 ?_
    rw [cl_tup, cls_mem]
    intro y hy
    obtain ⟨z, _, rfl⟩ := List.mem_map.mp hy
    rfl
  show gcO S (bodyO (evSs (callN Γ (k + 2)) f__law_permutation.body [some (.loc s), some (.int 12), none, none, none, none, none, none, none, none] S)) = _
  have bd : f__law_permutation.body = .cons lp1 (.cons lp2 (.cons lp3 (.cons lp4 (.cons lp5 (.cons lp6 (.cons lp7 (.cons lp8 (.cons lp9 (.cons lp10 (.cons lp11 (.nil))))))))))) := rfl
  rw [bd, evss_nx s1, evss_nx s2, evss_nx s3, evss_nx s4, evss_nx s5, evss_nx s6, evss_nx s7, evss_nx s8, evss_nx s9, evss_nx s10]
  simp only [lp11]
  generalize T.set (S.length + 8) (.dct false (kd q10)) ++ L = U at s11 gcl
  generalize T.set (S.length + 8) (.dct false (kd q10)) = V at s11 ⊢
  simp [-ev_bf, s11, gcl]
end Iv

set_option maxRecDepth 100000
namespace Iv
open PySem
/-! ### what is shown -/
theorem app_len (a b : Str) : (a ++ b).length = a.length + b.length := Array.size_append ..
theorem join_len {sep : Str} {B : Nat} : ∀ {ts : List Str}, (∀ t ∈ ts, t.length ≤ B) → (sep.join ts).length ≤ ts.length * (B + sep.length)
  | [], _ => Nat.zero_le _
  | [x], h => by
    have := h x List.mem_cons_self
    show x.length ≤ 1 * (B + sep.length)
    omega
  | x :: y :: ts, h => by
    have h1 := h x List.mem_cons_self
    have i := join_len (sep := sep) (ts := y :: ts) fun t ht => h t (List.mem_cons_of_mem _ ht)
    show (x ++ sep ++ sep.join (y :: ts)).length ≤ _
    rw [app_len, app_len]
    have e : (x :: y :: ts).length * (B + sep.length) = (y :: ts).length * (B + sep.length) + (B + sep.length) := by
      rw [List.length_cons, Nat.succ_mul]
    omega
theorem tuple_len {B : Nat} {ts : List Str} (h : ∀ t ∈ ts, t.length ≤ B) : (tupleText ts).length ≤ ts.length * (B + 2) + 3 := by
  have j := join_len (sep := Str.ofString ", ") h
  have e : (Str.ofString ", ").length = 2 := rfl
  rw [e] at j
  unfold tupleText
  rw [app_len, app_len]
  have e1 : (Str.ofString "(").length = 1 := rfl
  have e2 : (Str.ofString (if (ts.length == 1) = true then ",)" else ")")).length ≤ 2 := by
    split
    · exact Nat.le_refl _
    · exact Nat.le_succ _
  omega
theorem shownAll_map : ∀ l : List PyData, PyData.shownAll l = l.map PyData.shown
  | [] => rfl
  | x :: l => by
    rw [PyData.shownAll, shownAll_map l]
    rfl
theorem showAll_map : ∀ l : List PyData, PyData.showableAll l = l.all PyData.showable
  | [] => rfl
  | x :: l => by
    rw [PyData.showableAll, showAll_map l]
    rfl
theorem hasAll_map : ∀ l : List PyData, PyData.hasDictAll l = l.any PyData.hasDict
  | [] => rfl
  | x :: l => by
    rw [PyData.hasDictAll, hasAll_map l]
    rfl
theorem repr_bl {b : Bool} {S : Store} : bfD .repr [.bl b] S = .ok (.str (PyData.bool b).shown) S := by
  have e : reprOk (PyData.bool b) = true := by cases b <;> decide +kernel
  show ok? ((if reprOk (PyData.bool b) = true then some (PyData.bool b).shown else none).map D.str) S = _
  rw [if_pos e]
  rfl
theorem repr_of {d : D} {v : PyData} {S : Store} (h : toPy S 8 d = some v) (e : reprOk v = true) : bfD .repr [d] S = .ok (.str v.shown) S := by
  show ok? ((reprD S d).map D.str) S = _
  unfold reprD
  rw [h]
  show ok? ((if reprOk v = true then some v.shown else none).map D.str) S = _
  rw [if_pos e]
  rfl
theorem ok_small : ∀ n : Nat, n < 100 → reprOk (.int (n : Nat)) = true := by decide +kernel
theorem menu_short : ∀ x ∈ menuS, (reprText x).length ≤ 12 := by decide +kernel
def cv (cs : List (List Str)) : PyData := .tuple (cs.map fun c => PyData.tuple (c.map PyData.str))
theorem toPy_cd {S : Store} {cs : List (List Str)} : toPy S 8 (.tup (cd cs)) = some (cv cs) := by
  have key : ∀ cs : List (List Str), mapO (toPy S 7) (cd cs) = some (cs.map fun c => PyData.tuple (c.map PyData.str)) := fun cs => by
    induction cs with
    | nil => rfl
    | cons c cs ih =>
      have e : toPy S 7 (.tup (sd c)) = some (PyData.tuple (c.map PyData.str)) := by
        show (mapO (toPy S 6) (sd c)).map PyData.tuple = _
        rw [mapO_sd]
        rfl
      show mapO (toPy S 7) (.tup (sd c) :: cd cs) = _
      simp only [mapO, e, ih, List.map_cons]
  show (mapO (toPy S 7) (cd cs)).map PyData.tuple = _
  rw [key]
  rfl
theorem cv_ok {cs : List (List Str)} (hl : cs.length < 100) (hc : ∀ c ∈ cs, c.length < 100 ∧ ∀ x ∈ c, x ∈ menuS) : reprOk (cv cs) = true := by
  unfold reprOk
  rw [Bool.and_eq_true, Bool.and_eq_true]
  refine ⟨⟨?_, ?_⟩, decide_eq_true ?_⟩
  · unfold cv
    rw [PyData.showable, showAll_map, List.all_map, List.all_eq_true]
    intro c _
    show PyData.showable (PyData.tuple (c.map PyData.str)) = true
    rw [PyData.showable, showAll_map, List.all_map, List.all_eq_true]
    intro x _
    rfl
  · unfold cv
    rw [PyData.hasDict, hasAll_map, List.any_map, Bool.not_eq_true', List.any_eq_false]
    intro c _
    show ¬ PyData.hasDict (PyData.tuple (c.map PyData.str)) = true
    rw [PyData.hasDict, hasAll_map, List.any_map, Bool.not_eq_true, List.any_eq_false]
    intro x _
    exact Bool.false_ne_true
  · unfold cv
    rw [PyData.shown, shownAll_map, List.map_map]
    have := tuple_len (B := 1500) (ts := cs.map (PyData.shown ∘ fun c => PyData.tuple (c.map PyData.str))) (fun t ht => by
      obtain ⟨c, hc2, rfl⟩ := List.mem_map.mp ht
      obtain ⟨h1, h2⟩ := hc c hc2
      show (PyData.shown (PyData.tuple (c.map PyData.str))).length ≤ 1500
      rw [PyData.shown, shownAll_map, List.map_map]
      have := tuple_len (B := 12) (ts := c.map (PyData.shown ∘ PyData.str)) (fun t ht => by
        obtain ⟨x, hx, rfl⟩ := List.mem_map.mp ht
        exact menu_short x (h2 x hx))
      rw [List.length_map] at this
      omega)
    rw [List.length_map] at this
    rw [sizeLine_eq]
    omega
theorem cyc_in {p : Pm} (hp : PmOk p) : ∀ (l seen : List Str), (∀ x ∈ l, x ∈ p.map (·.1)) → seen.Nodup → (∀ x ∈ seen, x ∈ p.map (·.1)) → ∀ c ∈ cyc p l seen, c.length ≤ p.length + 1 ∧ ∀ x ∈ c, x ∈ p.map (·.1)
  | [], _, _, _, _, c, h => by cases h
  | s :: r, seen, hl, hn, hs, c, h => by
    obtain ⟨w1, w2⟩ := walk_nd hp (p.length + 1) seen s (hl s List.mem_cons_self) hn
    have hs' : ∀ x ∈ seen ++ walkC p (p.length + 1) seen s, x ∈ p.map (·.1) := fun x hx => by
      rcases List.mem_append.mp hx with hx | hx
      · exact hs x hx
      · exact w2 x hx
    have i := cyc_in hp r (seen ++ walkC p (p.length + 1) seen s) (fun x hx => hl x (List.mem_cons_of_mem _ hx)) w1 hs' c
    unfold cyc at h
    split at h
    · rcases List.mem_cons.mp h with h | h
      · subst h
        exact ⟨walk_len p _ _ _, w2⟩
      · exact i h
    · exact i h
theorem repr_cyc {p : Pm} (hp : LPm p) {S : Store} : bfD .repr [.tup (cd (cyc p (p.map (·.1)) []))] S = .ok (.str (cv (cyc p (p.map (·.1)) [])).shown) S := by
  refine repr_of toPy_cd (cv_ok ?_ fun c hc => ?_)
  · have := cyc_len p (p.map (·.1)) []
    have := hp.few
    rw [List.length_map] at *
    omega
  · obtain ⟨h1, h2⟩ := cyc_in hp.ok _ _ (fun _ h => h) List.nodup_nil (fun _ h => by cases h) c hc
    have := hp.few
    exact ⟨by omega, fun x hx => hp.small x (h2 x hx)⟩
theorem gapd_le (p : Pm) : gapd p ≤ 2 * p.length := by
  unfold gapd
  have h1 := List.length_filter_le mv p
  have h2 := List.length_filter_le (fun c => !hasS "" c) (cyc p (p.map (·.1)) [])
  have h3 := cyc_len p (p.map (·.1)) []
  rw [List.length_map] at h3
  omega
theorem repr_gapd {p : Pm} (hp : LPm p) {S : Store} : bfD .repr [.int (gapd p)] S = .ok (.str (PyData.int (gapd p)).shown) S :=
  repr_of rfl (ok_small _ (by have := gapd_le p; have := hp.few; omega))
end Iv

set_option maxRecDepth 100000
namespace Iv
open PySem
/-! ### permutations by their cycles -/
def Path (f : Str → Str) : Str → List Str → Str → Prop
  | x, [], e => f x = e
  | x, y :: r, e => f x = y ∧ Path f y r e
section
variable {f q h : Str → Str}
theorem path_app : ∀ {u : List Str} {x a : Str} {v : List Str} {e : Str}, Path f x (u ++ a :: v) e ↔ Path f x u a ∧ Path f a v e
  | [], _, _, _, _ => Iff.rfl
  | y :: u, x, a, v, e => by
    show f x = y ∧ Path f y (u ++ a :: v) e ↔ (f x = y ∧ Path f y u a) ∧ Path f a v e
    rw [path_app (u := u), and_assoc]
theorem path_cg : ∀ {r : List Str} {x x' e : Str}, q x' = f x → (∀ y ∈ r, q y = f y) → Path f x r e → Path q x' r e
  | [], _, _, _, h1, _, p => h1.trans p
  | y :: r, x, x', e, h1, h2, p => ⟨h1.trans p.1, path_cg (h2 y List.mem_cons_self) (fun z hz => h2 z (List.mem_cons_of_mem _ hz)) p.2⟩
theorem path_img : ∀ {r : List Str} {x e : Str}, Path f x r e → ∀ z ∈ x :: r, f z = e ∨ f z ∈ r
  | [], x, e, p, z, hz => by
    rw [List.mem_singleton.mp hz]
    exact .inl p
  | y :: r, x, e, p, z, hz => by
    rcases List.mem_cons.mp hz with rfl | hz
    · exact .inr (by rw [p.1]; exact List.mem_cons_self)
    · rcases path_img p.2 z hz with h | h
      · exact .inl h
      · exact .inr (List.mem_cons_of_mem _ h)
theorem path_last : ∀ {r : List Str} {x e : Str}, Path f x r e → ∃ y ∈ x :: r, f y = e
  | [], x, e, p => ⟨x, List.mem_cons_self, p⟩
  | y :: r, x, e, p => by
    obtain ⟨z, hz, e'⟩ := path_last p.2
    exact ⟨z, List.mem_cons_of_mem _ hz, e'⟩
theorem path_rev {P : Str → Prop} (hh : ∀ x, P x → h (f x) = x) : ∀ {r : List Str} {x e : Str}, (∀ z ∈ x :: r, P z) → Path f x r e → Path h e r.reverse x
  | [], x, e, hP, p => by
    have p : f x = e := p
    show h e = x
    rw [← p]
    exact hh x (hP x List.mem_cons_self)
  | y :: r, x, e, hP, p => by
    rw [List.reverse_cons]
    refine path_app.mpr ⟨path_rev hh (fun z hz => hP z (List.mem_cons_of_mem _ hz)) p.2, ?_⟩
    show h y = x
    rw [← p.1]
    exact hh x (hP x List.mem_cons_self)
def Cy (f : Str → Str) (c : List Str) : Prop := ∃ s r, c = s :: r ∧ Path f s r s
structure Cs (f : Str → Str) (ks : List Str) (cs : List (List Str)) : Prop where
  cy : ∀ c ∈ cs, Cy f c
  pm : cs.flatten.Perm ks
theorem cy_rot {c : List Str} (hc : Cy f c) {x : Str} (hx : x ∈ c) : ∃ r, Path f x r x ∧ (x :: r).Perm c := by
  obtain ⟨s, r, rfl, p⟩ := hc
  rcases List.mem_cons.mp hx with rfl | hx
  · exact ⟨r, p, .refl _⟩
  · obtain ⟨r1, r2, rfl⟩ := List.append_of_mem hx
    obtain ⟨p1, p2⟩ := path_app.mp p
    refine ⟨r2 ++ s :: r1, path_app.mpr ⟨p2, p1⟩, ?_⟩
    have e1 : (x :: (r2 ++ s :: r1)).Perm (s :: r1 ++ x :: r2) := by
      show ((x :: r2) ++ (s :: r1)).Perm _
      exact List.perm_append_comm
    exact e1
theorem cy_img {c : List Str} (hc : Cy f c) {x : Str} (hx : x ∈ c) : f x ∈ c := by
  obtain ⟨s, r, rfl, p⟩ := hc
  rcases path_img p x hx with h | h
  · rw [h]; exact List.mem_cons_self
  · exact List.mem_cons_of_mem _ h
def iter (f : Str → Str) : Nat → Str → Str
  | 0, x => x
  | n + 1, x => iter f n (f x)
def Rch (f : Str → Str) (x y : Str) : Prop := ∃ n, iter f n x = y
theorem rch_step {x y : Str} (h : Rch f (f x) y) : Rch f x y := by
  obtain ⟨n, e⟩ := h
  exact ⟨n + 1, e⟩
theorem path_rch : ∀ {r : List Str} {x e : Str}, Path f x r e → Rch f x e ∧ ∀ y ∈ r, Rch f x y
  | [], x, e, p => ⟨⟨1, p⟩, fun _ h => by cases h⟩
  | y :: r, x, e, p => by
    obtain ⟨h1, h2⟩ := path_rch p.2
    have e1 := p.1
    refine ⟨rch_step (by rw [e1]; exact h1), fun z hz => ?_⟩
    rcases List.mem_cons.mp hz with rfl | hz
    · exact ⟨1, e1⟩
    · exact rch_step (by rw [e1]; exact h2 z hz)
theorem cy_rch {c : List Str} (hc : Cy f c) {x y : Str} (hx : x ∈ c) : Rch f x y ↔ y ∈ c := by
  constructor
  · rintro ⟨n, rfl⟩
    induction n generalizing x with
    | zero => exact hx
    | succ n ih => exact ih (cy_img hc hx)
  · intro hy
    obtain ⟨r, p, pm⟩ := cy_rot hc hx
    rcases List.mem_cons.mp (pm.symm.subset hy) with rfl | h
    · exact ⟨0, rfl⟩
    · exact (path_rch p).2 y h
theorem cy_moved {c : List Str} (hc : Cy f c) (nd : c.Nodup) (hl : 1 < c.length) {x : Str} (hx : x ∈ c) : f x ≠ x := by
  obtain ⟨r, p, pm⟩ := cy_rot hc hx
  have nd := pm.nodup_iff.mpr nd
  have hl : 1 < (x :: r).length := by rw [pm.length_eq]; exact hl
  cases r with
  | nil => simp at hl
  | cons y r =>
    intro e
    have : y = x := p.1.symm.trans e
    exact (List.nodup_cons.mp nd).1 (by rw [← this]; exact List.mem_cons_self)
theorem cy_one {c : List Str} (hc : Cy f c) (hl : ¬ 1 < c.length) : ∃ s, c = [s] ∧ f s = s := by
  obtain ⟨s, r, rfl, p⟩ := hc
  cases r with
  | nil => exact ⟨s, rfl, p⟩
  | cons y r => simp at hl
/-! ### a cycle's weight -/
def wt (c : List Str) : Nat := if 1 < c.length then (if hasS "" c then c.length - 1 else c.length + 1) else 0
def gds (cs : List (List Str)) : Nat := (cs.map wt).sum
open Classical in
/-- what a label gives -/
noncomputable def phi (f : Str → Str) (ks : List Str) (x : Str) : Nat := (if f x ≠ x ∧ x ≠ "" then 1 else 0) + (if f x ≠ x ∧ ¬ Rch f x "" ∧ ks.find? (fun y => decide (Rch f x y)) = some x then 1 else 0)
theorem sum_if {P : Str → Prop} [DecidablePred P] (l : List Str) : (l.map fun x => if P x then 1 else 0).sum = (l.filter fun x => decide (P x)).length := by
  induction l with
  | nil => rfl
  | cons x l ih =>
    rw [List.map_cons, List.sum_cons, ih, List.filter_cons]
    by_cases h : P x
    · rw [if_pos h, if_pos (decide_eq_true h), List.length_cons]; omega
    · rw [if_neg h, if_neg (by rw [decide_eq_false h]; exact Bool.false_ne_true)]; omega
theorem sum_add (l : List Str) (a b : Str → Nat) : (l.map fun x => a x + b x).sum = (l.map a).sum + (l.map b).sum := by
  induction l with
  | nil => rfl
  | cons x l ih => simp only [List.map_cons, List.sum_cons, ih]; omega
theorem one_in {x0 : Str} : ∀ {l : List Str}, l.Nodup → x0 ∈ l → (l.map fun x => if x = x0 then 1 else 0).sum = 1
  | x :: l, nd, h => by
    obtain ⟨n1, n2⟩ := List.nodup_cons.mp nd
    rw [List.map_cons, List.sum_cons]
    by_cases e : x = x0
    · rw [if_pos e]
      have : (l.map fun x => if x = x0 then 1 else 0).sum = 0 := by
        rw [List.sum_eq_zero_iff_forall_eq_nat]
        intro n hn
        obtain ⟨y, hy, rfl⟩ := List.mem_map.mp hn
        exact if_neg fun z => n1 (by rw [e, ← z]; exact hy)
      omega
    · rw [if_neg e]
      rcases List.mem_cons.mp h with h | h
      · exact absurd h.symm e
      · have := one_in n2 h
        omega
theorem non_gap {c : List Str} (nd : c.Nodup) : (c.map fun x : Str => if x ≠ "" then 1 else 0).sum = if hasS "" c then c.length - 1 else c.length := by
  induction c with
  | nil => rfl
  | cons x c ih =>
    obtain ⟨n1, n2⟩ := List.nodup_cons.mp nd
    rw [List.map_cons, List.sum_cons, ih n2]
    have hs : hasS "" (x :: c) = (decide (x = "") || hasS "" c) := rfl
    rw [hs]
    by_cases e : x = ""
    · have : hasS "" c = false := by
        cases z : hasS "" c with
        | false => rfl
        | true => exact absurd (e ▸ hasS_iff.mp z) n1
      simp [e, this]
    · cases z : hasS "" c with
      | false => simp [e]; omega
      | true =>
        have := List.length_pos_of_mem (hasS_iff.mp z)
        simp [e]
        omega
theorem wt_phi {ks c : List Str} (hc : Cy f c) (nd : c.Nodup) (hk : ∀ x ∈ c, x ∈ ks) : wt c = (c.map (phi f ks)).sum := by
  unfold wt
  by_cases hl : 1 < c.length
  · rw [if_pos hl]
    have mv : ∀ x ∈ c, f x ≠ x := fun x hx => cy_moved hc nd hl hx
    cases hg : hasS "" c with
    | true =>
      have g := hasS_iff.mp hg
      have e : c.map (phi f ks) = c.map fun x : Str => if x ≠ "" then 1 else 0 := List.map_congr_left fun x hx => by
        unfold phi
        have r : Rch f x "" := (cy_rch hc hx).mpr g
        have : ¬ (f x ≠ x ∧ ¬ Rch f x "" ∧ ks.find? (fun y => @decide (Rch f x y) (Classical.propDecidable _)) = some x) := fun z => z.2.1 r
        rw [if_neg this, Nat.add_zero]
        by_cases z : x ≠ ""
        · rw [if_pos ⟨mv x hx, z⟩, if_pos z]
        · rw [if_neg fun w => z w.2, if_neg z]
      rw [e, non_gap nd, hg]
      rfl
    | false =>
      have ng : ("" : Str) ∉ c := fun z => by
        rw [hasS_iff.mpr z] at hg
        cases hg
      obtain ⟨x0, hx0, hf⟩ : ∃ x0 ∈ c, ks.find? (fun y => decide (y ∈ c)) = some x0 := by
        obtain ⟨s, hs⟩ : ∃ s, s ∈ c := by
          obtain ⟨s, r, rfl, _⟩ := hc
          exact ⟨s, List.mem_cons_self⟩
        cases hf : ks.find? (fun y => decide (y ∈ c)) with
        | none =>
          have := List.find?_eq_none.mp hf s (hk s hs)
          simp [hs] at this
        | some x0 =>
          have := List.find?_some hf
          exact ⟨x0, of_decide_eq_true this, rfl⟩
      have e : c.map (phi f ks) = c.map fun x : Str => (if x ≠ "" then 1 else 0) + (if x = x0 then 1 else 0) := List.map_congr_left fun x hx => by
        unfold phi
        have z : x ≠ "" := fun z => ng (z ▸ hx)
        rw [if_pos ⟨mv x hx, z⟩, if_pos z]
        congr 1
        have ef : ks.find? (fun y => @decide (Rch f x y) (Classical.propDecidable _)) = ks.find? (fun y => decide (y ∈ c)) := by
          congr 1
          funext y
          exact decide_eq_decide.mpr (cy_rch hc hx)
        rw [ef, hf]
        by_cases w : x = x0
        · rw [if_pos w, if_pos ⟨mv x hx, fun r => ng ((cy_rch hc hx).mp r), by rw [w]⟩]
        · rw [if_neg w, if_neg fun r => w (Option.some.inj r.2.2).symm]
      rw [e, sum_add, non_gap nd, hg, one_in nd hx0]
      rfl
  · obtain ⟨s, rfl, e⟩ := cy_one hc hl
    rw [if_neg hl]
    unfold phi
    have h1 : ¬ (f s ≠ s ∧ s ≠ "") := fun z => z.1 e
    have h2 : ¬ (f s ≠ s ∧ ¬ Rch f s "" ∧ ks.find? (fun y => @decide (Rch f s y) (Classical.propDecidable _)) = some s) := fun z => z.1 e
    rw [List.map_singleton, if_neg h1, if_neg h2]
    rfl
theorem sum_flat {α : Type} (F : α → Nat) : ∀ cs : List (List α), (cs.flatten.map F).sum = (cs.map fun c => (c.map F).sum).sum
  | [] => rfl
  | c :: cs => by
    rw [List.flatten_cons, List.map_append, List.sum_append, List.map_cons, List.sum_cons, sum_flat F cs]
theorem Cs.sub {ks : List Str} {cs : List (List Str)} (C : Cs f ks cs) (nd : ks.Nodup) : ∀ c ∈ cs, c.Nodup ∧ ∀ x ∈ c, x ∈ ks := fun c hc => by
  have nf := C.pm.nodup_iff.mpr nd
  obtain ⟨A, B, rfl⟩ := List.append_of_mem hc
  rw [List.flatten_append, List.flatten_cons] at nf
  refine ⟨(List.nodup_append.mp (List.nodup_append.mp nf).2.1).1, fun x hx => C.pm.subset ?_⟩
  rw [List.flatten_append, List.flatten_cons]
  exact List.mem_append_right _ (List.mem_append_left _ hx)
theorem gds_phi {ks : List Str} {cs : List (List Str)} (C : Cs f ks cs) (nd : ks.Nodup) : gds cs = (ks.map (phi f ks)).sum := by
  have h := (C.pm.map (phi f ks)).sum_nat
  rw [← h, sum_flat]
  unfold gds
  congr 1
  refine List.map_congr_left fun c hc => ?_
  obtain ⟨h1, h2⟩ := C.sub nd c hc
  exact wt_phi (C.cy c hc) h1 h2
theorem gds_eq {ks : List Str} {cs cs' : List (List Str)} (C : Cs f ks cs) (C' : Cs f ks cs') (nd : ks.Nodup) : gds cs = gds cs' := by
  rw [gds_phi C nd, gds_phi C' nd]
end
end Iv

set_option maxRecDepth 100000
namespace Iv
open PySem
/-! ### an exchange with the gap -/
section
variable {f h : Str → Str} {ks : List Str}
theorem Cs.front {c : List Str} {cs : List (List Str)} (C : Cs f ks cs) (hc : c ∈ cs) {x : Str} (hx : x ∈ c) : ∃ r rest, Cs f ks ((x :: r) :: rest) ∧ Path f x r x := by
  obtain ⟨r, p, pm⟩ := cy_rot (C.cy c hc) hx
  obtain ⟨A, B, rfl⟩ := List.append_of_mem hc
  refine ⟨r, A ++ B, ⟨fun d hd => ?_, ?_⟩, p⟩
  · rcases List.mem_cons.mp hd with rfl | hd
    · exact ⟨x, r, rfl, p⟩
    · exact C.cy d (by
        rcases List.mem_append.mp hd with hd | hd
        · exact List.mem_append_left _ hd
        · exact List.mem_append_right _ (List.mem_cons_of_mem _ hd))
  · refine List.Perm.trans ?_ C.pm
    rw [List.flatten_cons, List.flatten_append, List.flatten_append, List.flatten_cons, ← List.append_assoc, ← List.append_assoc]
    refine List.Perm.append_right _ ?_
    exact List.Perm.trans (List.perm_append_comm) (pm.append_left _)
theorem Cs.find {cs : List (List Str)} (C : Cs f ks cs) {x : Str} (hx : x ∈ ks) : ∃ c ∈ cs, x ∈ c := by
  obtain ⟨c, hc, hxc⟩ := List.mem_flatten.mp (C.pm.symm.subset hx)
  exact ⟨c, hc, hxc⟩
theorem hasS_no {x : Str} {l : List Str} (hn : x ∉ l) : hasS x l = false := by
  cases e : hasS x l with
  | false => rfl
  | true => exact absurd (hasS_iff.mp e) hn
theorem wt_gap (v : List Str) : wt ("" :: v) = v.length := by
  unfold wt
  have : hasS "" (("" : Str) :: v) = true := hasS_iff.mpr List.mem_cons_self
  rw [this]
  cases v with
  | nil => rfl
  | cons y v => rw [if_pos (by simp), if_pos rfl]; rfl
theorem wt_gapM {u v : List Str} {a : Str} : wt ("" :: (u ++ a :: v)) = u.length + v.length + 1 := by
  rw [wt_gap, List.length_append, List.length_cons]
  omega
theorem wt_no {a : Str} {u : List Str} (hn : ("" : Str) ∉ a :: u) : wt (a :: u) = if u = [] then 0 else u.length + 2 := by
  unfold wt
  rw [hasS_no hn]
  cases u with
  | nil => rfl
  | cons y u => rw [if_pos (by simp), if_neg Bool.false_ne_true, if_neg (by simp)]; rfl
/-- up or down by one; down where it should be -/
theorem step_one {cs : List (List Str)} (C : Cs f ks cs) (nd : ks.Nodup) {a : Str} (hg : ("" : Str) ∈ ks) (ha : a ∈ ks) (hne : a ≠ "") :
    ∃ cs', Cs (exF f "" a) ks cs' ∧ (gds cs' = gds cs + 1 ∨ gds cs' + 1 = gds cs) ∧ (f "" = a → gds cs' + 1 = gds cs) ∧ (f "" = "" → f a ≠ a → gds cs' + 1 = gds cs) := by
  obtain ⟨c, hc, gc⟩ := C.find hg
  obtain ⟨v, rest, C1, p⟩ := C.front hc gc
  have g1 := gds_eq C C1 nd
  have nf := C1.pm.nodup_iff.mpr nd
  have qg : exF f "" a "" = f a := exF_l
  have qa : exF f "" a a = f "" := exF_r (fun e => hne e.symm)
  have qo : ∀ y : Str, y ≠ "" → y ≠ a → exF f "" a y = f y := fun y h1 h2 => exF_o h1 h2
  have cyR : ∀ d ∈ rest, (∀ y ∈ d, y ≠ "" ∧ y ≠ a) → Cy (exF f "" a) d := fun d hd hy => by
    obtain ⟨s, r, rfl, pp⟩ := C1.cy d (List.mem_cons_of_mem _ hd)
    have hs := hy s List.mem_cons_self
    exact ⟨s, r, rfl, path_cg (qo s hs.1 hs.2) (fun y hm => by have := hy y (List.mem_cons_of_mem _ hm); exact qo y this.1 this.2) pp⟩
  rw [List.flatten_cons] at nf
  have nf1 := List.nodup_append.mp nf
  have gr : ∀ d ∈ rest, ∀ y ∈ d, y ≠ "" := fun d hd y hy e => nf1.2.2 "" List.mem_cons_self y (List.mem_flatten.mpr ⟨d, hd, hy⟩) e.symm
  by_cases av : a ∈ v
  · obtain ⟨u, w, rfl⟩ := List.append_of_mem av
    obtain ⟨p1, p2⟩ := path_app.mp p
    have n1 := nf1.1
    obtain ⟨n2, n3⟩ := List.nodup_cons.mp n1
    obtain ⟨n4, n5, n6⟩ := List.nodup_append.mp n3
    obtain ⟨n7, n8⟩ := List.nodup_cons.mp n5
    have uo : ∀ y ∈ u, exF f "" a y = f y := fun y hy => qo y (fun e => n2 (e ▸ List.mem_append_left _ hy)) (fun e => n6 y hy a List.mem_cons_self e)
    have wo : ∀ y ∈ w, exF f "" a y = f y := fun y hy => qo y (fun e => n2 (e ▸ List.mem_append_right _ (List.mem_cons_of_mem _ hy))) (fun e => n7 (e ▸ hy))
    have gu : ("" : Str) ∉ a :: u := fun z => by
      rcases List.mem_cons.mp z with z | z
      · exact hne z.symm
      · exact n2 (List.mem_append_left _ z)
    refine ⟨("" :: w) :: (a :: u) :: rest, ⟨fun d hd => ?_, ?_⟩, ?_, ?_, ?_⟩
    · rcases List.mem_cons.mp hd with rfl | hd
      · exact ⟨"", w, rfl, path_cg qg wo p2⟩
      · rcases List.mem_cons.mp hd with rfl | hd
        · exact ⟨a, u, rfl, path_cg qa uo p1⟩
        · exact cyR d hd fun y hy => ⟨gr d hd y hy, fun e => nf1.2.2 a (List.mem_cons_of_mem _ (List.mem_append_right _ List.mem_cons_self)) y (List.mem_flatten.mpr ⟨d, hd, hy⟩) e.symm⟩
    · refine List.Perm.trans ?_ C1.pm
      rw [List.flatten_cons, List.flatten_cons, List.flatten_cons, ← List.append_assoc]
      refine List.Perm.append_right _ ?_
      show (("" : Str) :: (w ++ a :: u)).Perm (("" : Str) :: (u ++ a :: w))
      refine List.Perm.cons _ ?_
      exact List.Perm.trans List.perm_middle (List.Perm.trans ((List.perm_append_comm).cons a) List.perm_middle.symm)
    · rw [g1]
      simp only [gds, List.map_cons, List.sum_cons, wt_gap, wt_no gu, List.length_append, List.length_cons]
      split
      · next e => subst e; right; simp only [List.length_nil]; omega
      · left; omega
    · intro e
      have : u = [] := by
        cases u with
        | nil => rfl
        | cons y u =>
          exfalso
          have : y = a := p1.1.symm.trans e
          exact n6 y List.mem_cons_self a List.mem_cons_self this
      subst this
      rw [g1]
      simp only [gds, List.map_cons, List.sum_cons, wt_gap, wt_no gu, List.length_append, List.length_cons, List.length_nil, if_true]
      omega
    · intro e _
      exfalso
      cases u with
      | nil => exact hne (p1.symm.trans e)
      | cons y u =>
        have : y = "" := p1.1.symm.trans e
        exact n2 (List.mem_append_left _ (by rw [this]; exact List.mem_cons_self))
  · obtain ⟨c2, hc2, ac2⟩ := C1.find ha
    have hc2 : c2 ∈ rest := by
      rcases List.mem_cons.mp hc2 with rfl | hc2
      · rcases List.mem_cons.mp ac2 with z | z
        · exact absurd z hne
        · exact absurd z av
      · exact hc2
    obtain ⟨u, pa, pm2⟩ := cy_rot (C1.cy c2 (List.mem_cons_of_mem _ hc2)) ac2
    obtain ⟨A, B, rfl⟩ := List.append_of_mem hc2
    -- the two cycles ahead of the others
    have C2 : Cs f ks (("" :: v) :: (a :: u) :: (A ++ B)) := by
      refine ⟨fun d hd => ?_, ?_⟩
      · rcases List.mem_cons.mp hd with rfl | hd
        · exact ⟨"", v, rfl, p⟩
        · rcases List.mem_cons.mp hd with rfl | hd
          · exact ⟨a, u, rfl, pa⟩
          · exact C1.cy d (List.mem_cons_of_mem _ (by
              rcases List.mem_append.mp hd with hd | hd
              · exact List.mem_append_left _ hd
              · exact List.mem_append_right _ (List.mem_cons_of_mem _ hd)))
      · refine List.Perm.trans ?_ C1.pm
        rw [List.flatten_cons, List.flatten_cons, List.flatten_cons]
        refine List.Perm.append_left _ ?_
        rw [List.flatten_append, List.flatten_append, List.flatten_cons, ← List.append_assoc, ← List.append_assoc]
        refine List.Perm.append_right _ ?_
        exact List.Perm.trans List.perm_append_comm (pm2.append_left _)
    have g2 := gds_eq C C2 nd
    have nz := C2.pm.nodup_iff.mpr nd
    rw [List.flatten_cons, List.flatten_cons] at nz
    obtain ⟨m1, m2, m3⟩ := List.nodup_append.mp nz
    obtain ⟨m4, m5, m6⟩ := List.nodup_append.mp m2
    obtain ⟨k1, k2⟩ := List.nodup_cons.mp m1
    obtain ⟨k3, k4⟩ := List.nodup_cons.mp m4
    have gu : ("" : Str) ∉ a :: u := fun z => m3 "" List.mem_cons_self "" (List.mem_append_left _ z) rfl
    have vo : ∀ y ∈ v, exF f "" a y = f y := fun y hy => qo y (fun e => k1 (e ▸ hy)) (fun e => av (e ▸ hy))
    have uo : ∀ y ∈ u, exF f "" a y = f y := fun y hy => qo y (fun e => gu (List.mem_cons_of_mem _ (e ▸ hy))) (fun e => k3 (e ▸ hy))
    have mg : ∀ d, d = ("" :: (u ++ a :: v) : List Str) → Path (exF f "" a) "" (u ++ a :: v) "" := fun _ _ => path_app.mpr ⟨path_cg qg uo pa, path_cg qa vo p⟩
    refine ⟨("" :: (u ++ a :: v)) :: (A ++ B), ⟨fun d hd => ?_, ?_⟩, ?_, ?_, ?_⟩
    · rcases List.mem_cons.mp hd with e | hd
      · exact ⟨"", u ++ a :: v, e, mg d e⟩
      · have hd' : d ∈ A ++ c2 :: B := by
          rcases List.mem_append.mp hd with hd | hd
          · exact List.mem_append_left _ hd
          · exact List.mem_append_right _ (List.mem_cons_of_mem _ hd)
        exact cyR d hd' fun y hy => ⟨gr d hd' y hy, fun e => m6 a List.mem_cons_self y (List.mem_flatten.mpr ⟨d, hd, hy⟩) e.symm⟩
    · refine List.Perm.trans ?_ C2.pm
      rw [List.flatten_cons, List.flatten_cons, List.flatten_cons, ← List.append_assoc]
      refine List.Perm.append_right _ ?_
      show (("" : Str) :: (u ++ a :: v)).Perm (("" : Str) :: (v ++ a :: u))
      refine List.Perm.cons _ ?_
      exact List.Perm.trans List.perm_middle (List.Perm.trans ((List.perm_append_comm).cons a) List.perm_middle.symm)
    · rw [g2]
      simp only [gds, List.map_cons, List.sum_cons, wt_gap, wt_no gu, List.length_append, List.length_cons]
      split
      · next e => subst e; left; simp only [List.length_nil]; omega
      · right; omega
    · intro e
      exfalso
      cases v with
      | nil => exact hne (e.symm.trans p)
      | cons y v =>
        have : y = a := p.1.symm.trans e
        exact av (by rw [this]; exact List.mem_cons_self)
    · intro _ e
      have : u ≠ [] := fun z => by
        subst z
        exact e pa
      rw [g2]
      simp only [gds, List.map_cons, List.sum_cons, wt_gap, wt_no gu, List.length_append, List.length_cons, if_neg this]
      omega
/-- the inverse has the cycles backwards -/
theorem cs_inv {cs : List (List Str)} (C : Cs f ks cs) (nd : ks.Nodup) (hh : ∀ x ∈ ks, h (f x) = x) : ∃ cs', Cs h ks cs' ∧ gds cs' = gds cs := by
  let rv : List Str → List Str := fun c => match c with
    | [] => []
    | s :: r => s :: r.reverse
  have pv : ∀ c, (rv c).Perm c := fun c => by
    cases c with
    | nil => exact .refl _
    | cons s r => exact (List.reverse_perm r).cons s
  have wv : ∀ c, wt (rv c) = wt c := fun c => by
    unfold wt
    have e : hasS "" (rv c) = hasS "" c := by
      cases z : hasS "" c with
      | true => exact hasS_iff.mpr ((pv c).symm.subset (hasS_iff.mp z))
      | false => exact hasS_no fun w => by rw [hasS_iff.mpr ((pv c).subset w)] at z; cases z
    rw [(pv c).length_eq, e]
  refine ⟨cs.map rv, ⟨fun c hc => ?_, ?_⟩, ?_⟩
  · obtain ⟨d, hd, rfl⟩ := List.mem_map.mp hc
    obtain ⟨_, hk⟩ := C.sub nd d hd
    obtain ⟨s, r, rfl, p⟩ := C.cy d hd
    exact ⟨s, r.reverse, rfl, path_rev (P := fun x => x ∈ ks) hh hk p⟩
  · refine List.Perm.trans ?_ C.pm
    have key : ∀ l : List (List Str), (l.map rv).flatten.Perm l.flatten := fun l => by
      induction l with
      | nil => exact .refl _
      | cons c l ih =>
        rw [List.map_cons, List.flatten_cons, List.flatten_cons]
        exact (pv c).append ih
    exact key cs
  · unfold gds
    rw [List.map_map]
    congr 1
    exact List.map_congr_left fun c _ => wv c
end
end Iv

set_option maxRecDepth 100000
namespace Iv
open PySem
/-! ### what the program's walk finds -/
section
variable {f : Str → Str} {ks : List Str}
theorem nd_snoc' {A : List Str} {l : Str} (h : A.Nodup) (h2 : l ∉ A) : (A ++ [l]).Nodup := nd_snoc h h2
theorem walk_cy (hi : Inj f ks) (hf : ∀ x ∈ ks, f x ∈ ks) {seen : List Str} (cl : ∀ x ∈ ks, x ∉ seen → f x ∉ seen) (sub : ∀ x ∈ seen, x ∈ ks) {s : Str} : ∀ (n : Nat) (r : List Str) (l : Str), Path f s r l → (seen ++ s :: r).Nodup → (∀ x ∈ s :: r, x ∈ ks) → l ∈ ks → ks.length + 1 ≤ n + (seen ++ s :: r).length →
    Path f s (r ++ walkF f n (seen ++ s :: r) l) s ∧ (seen ++ s :: (r ++ walkF f n (seen ++ s :: r) l)).Nodup ∧ ∀ x ∈ s :: (r ++ walkF f n (seen ++ s :: r) l), x ∈ ks
  | 0, r, l, p, nd, sk, lk, hn => by
    have := nodup_len nd fun x hx => by
      rcases List.mem_append.mp hx with hx | hx
      · exact sub x hx
      · exact sk x hx
    omega
  | n + 1, r, l, p, nd, sk, lk, hn => by
    have hw : walkF f (n + 1) (seen ++ s :: r) l = if hasS l (seen ++ s :: r) then [] else l :: walkF f n (seen ++ s :: r ++ [l]) (f l) := rfl
    obtain ⟨z1, z2, z3⟩ := List.nodup_append.mp nd
    cases hh : hasS l (seen ++ s :: r) with
    | true =>
      have hm := hasS_iff.mp hh
      have ls : l = s := by
        rcases List.mem_append.mp hm with hm | hm
        · obtain ⟨y, hy, e⟩ := path_last p
          exact absurd (e ▸ hm) (cl y (sk y hy) fun w => z3 y w y hy rfl)
        · rcases List.mem_cons.mp hm with hm | hm
          · exact hm
          · exfalso
            obtain ⟨r1, r2, rfl⟩ := List.append_of_mem hm
            obtain ⟨p1, p2⟩ := path_app.mp p
            obtain ⟨y1, hy1, e1⟩ := path_last p1
            obtain ⟨y2, hy2, e2⟩ := path_last p2
            have k1 : y1 ∈ s :: (r1 ++ l :: r2) := by
              rcases List.mem_cons.mp hy1 with z | z
              · rw [z]; exact List.mem_cons_self
              · exact List.mem_cons_of_mem _ (List.mem_append_left _ z)
            have k2 : y2 ∈ s :: (r1 ++ l :: r2) := List.mem_cons_of_mem _ (List.mem_append_right _ hy2)
            have e := hi y1 (sk y1 k1) y2 (sk y2 k2) (e1.trans e2.symm)
            have z2' : (s :: r1 ++ l :: r2).Nodup := z2
            exact (List.nodup_append.mp z2').2.2 y1 hy1 y2 hy2 e
      rw [hw, if_pos hh, List.append_nil, ← ls]
      rw [← ls] at p nd sk
      exact ⟨p, nd, sk⟩
    | false =>
      have hm : l ∉ seen ++ s :: r := fun w => by
        rw [hasS_iff.mpr w] at hh
        cases hh
      have e1 : seen ++ s :: r ++ [l] = seen ++ s :: (r ++ [l]) := by simp
      obtain ⟨i1, i2, i3⟩ := walk_cy hi hf cl sub n (r ++ [l]) (f l) (path_app.mpr ⟨p, rfl⟩) (by rw [← e1]; exact nd_snoc nd hm) (fun x hx => by
        rcases List.mem_cons.mp hx with rfl | hx
        · exact sk _ List.mem_cons_self
        · rcases List.mem_append.mp hx with hx | hx
          · exact sk x (List.mem_cons_of_mem _ hx)
          · rw [List.mem_singleton.mp hx]; exact lk) (hf l lk) (by rw [← e1, List.length_append, List.length_singleton]; omega)
      have e2 : r ++ walkF f (n + 1) (seen ++ s :: r) l = r ++ [l] ++ walkF f n (seen ++ s :: (r ++ [l])) (f l) := by
        rw [hw, hh, if_neg Bool.false_ne_true, e1]
        simp
      rw [e2]
      exact ⟨i1, i2, i3⟩
theorem cy_pre {c : List Str} (hc : Cy f c) {x : Str} (hx : x ∈ c) : ∃ y ∈ c, f y = x := by
  obtain ⟨r, p, pm⟩ := cy_rot hc hx
  obtain ⟨y, hy, e⟩ := path_last p
  exact ⟨y, pm.subset hy, e⟩
theorem cyc_cs (hi : Inj f ks) (hf : ∀ x ∈ ks, f x ∈ ks) {n : Nat} (hn : ks.length + 1 ≤ n) : ∀ (l seen : List Str), seen.Nodup → (∀ x ∈ seen, x ∈ ks) → (∀ x ∈ ks, x ∉ seen → f x ∉ seen) → (∀ x ∈ l, x ∈ ks) →
    ∃ cs : List (List Str), (∀ c ∈ cs, Cy f c) ∧ (seen ++ cs.flatten).Nodup ∧ (∀ x ∈ cs.flatten, x ∈ ks) ∧ (∀ x ∈ l, x ∈ seen ++ cs.flatten) ∧ cycF f n l seen = cs.filter fun c => decide (1 < c.length)
  | [], seen, nd, _, _, _ => ⟨[], (fun _ h => by cases h), (by simpa using nd), (fun _ h => by cases h), (fun _ h => by cases h), rfl⟩
  | s :: l, seen, nd, sub, cl, hl => by
    have hs := hl s List.mem_cons_self
    obtain ⟨m, rfl⟩ : ∃ m, n = m + 1 := ⟨n - 1, by omega⟩
    have hc : cycF f (m + 1) (s :: l) seen = if 1 < (walkF f (m + 1) seen s).length then walkF f (m + 1) seen s :: cycF f (m + 1) l (seen ++ walkF f (m + 1) seen s) else cycF f (m + 1) l (seen ++ walkF f (m + 1) seen s) := rfl
    have hw : walkF f (m + 1) seen s = if hasS s seen then [] else s :: walkF f m (seen ++ [s]) (f s) := rfl
    cases hh : hasS s seen with
    | true =>
      rw [hh, if_pos rfl] at hw
      obtain ⟨cs, h1, h2, h3, h4, h5⟩ := cyc_cs hi hf hn l seen nd sub cl (fun x hx => hl x (List.mem_cons_of_mem _ hx))
      refine ⟨cs, h1, h2, h3, fun x hx => ?_, ?_⟩
      · rcases List.mem_cons.mp hx with rfl | hx
        · exact List.mem_append_left _ (hasS_iff.mp hh)
        · exact h4 x hx
      · rw [hc, hw, List.append_nil, if_neg (by decide), h5]
    | false =>
      have hns : s ∉ seen := fun w => by
        rw [hasS_iff.mpr w] at hh
        cases hh
      rw [hh, if_neg Bool.false_ne_true] at hw
      obtain ⟨p, nw, kw⟩ := walk_cy hi hf cl sub m [] (f s) (s := s) rfl (nd_snoc nd hns) (fun x hx => by rw [List.mem_singleton.mp hx]; exact hs) (hf s hs) (by rw [List.length_append, List.length_singleton]; omega)
      rw [List.nil_append] at p nw kw
      have cw : Cy f (walkF f (m + 1) seen s) := ⟨s, _, hw, p⟩
      rw [← hw] at nw kw
      obtain ⟨cs, h1, h2, h3, h4, h5⟩ := cyc_cs hi hf hn l (seen ++ walkF f (m + 1) seen s) nw (fun x hx => by
        rcases List.mem_append.mp hx with hx | hx
        · exact sub x hx
        · exact kw x hx) (fun x hx hxn hfx => by
        rcases List.mem_append.mp hfx with hfx | hfx
        · exact cl x hx (fun w => hxn (List.mem_append_left _ w)) hfx
        · obtain ⟨y, hy, e⟩ := cy_pre cw hfx
          exact hxn (List.mem_append_right _ (hi y (kw y hy) x hx e ▸ hy))) (fun x hx => hl x (List.mem_cons_of_mem _ hx))
      refine ⟨walkF f (m + 1) seen s :: cs, fun c hcm => ?_, ?_, fun x hx => ?_, fun x hx => ?_, ?_⟩
      · rcases List.mem_cons.mp hcm with rfl | hcm
        · exact cw
        · exact h1 c hcm
      · rw [List.flatten_cons, ← List.append_assoc]
        exact h2
      · rw [List.flatten_cons] at hx
        rcases List.mem_append.mp hx with hx | hx
        · exact kw x hx
        · exact h3 x hx
      · rw [List.flatten_cons, ← List.append_assoc]
        rcases List.mem_cons.mp hx with rfl | hx
        · refine List.mem_append_left _ (List.mem_append_right _ ?_)
          rw [hw]
          exact List.mem_cons_self
        · exact h4 x hx
      · rw [hc, h5, List.filter_cons]
        by_cases c : 1 < (walkF f (m + 1) seen s).length
        · rw [if_pos c, if_pos (decide_eq_true c)]
        · rw [if_neg c, if_neg (by rw [decide_eq_false c]; exact Bool.false_ne_true)]
end
theorem map_im {p : Pm} (hp : (p.map (·.1)).Nodup) : (p.map (·.1)).map (im p) = p.map (·.2) := by
  induction p with
  | nil => rfl
  | cons q p ih =>
    obtain ⟨k, v⟩ := q
    obtain ⟨h1, h2⟩ := List.nodup_cons.mp hp
    show im ((k, v) :: p) k :: (p.map (·.1)).map (im ((k, v) :: p)) = v :: p.map (·.2)
    have e1 : im ((k, v) :: p) k = v := by
      show ((if k = k then some v else lookA k p)).getD k = v
      rw [if_pos rfl]
      rfl
    rw [e1, ← ih h2]
    congr 1
    refine List.map_congr_left fun x hx => ?_
    show ((if k = x then some v else lookA x p)).getD x = _
    rw [if_neg fun e : k = x => h1 (by rw [e]; exact hx)]
    rfl
theorem alg_cs {p : Pm} (hp : PmOk p) (hi : Inj (im p) (p.map (·.1))) : ∃ cs, Cs (im p) (p.map (·.1)) cs ∧ cyc p (p.map (·.1)) [] = cs.filter fun c => decide (1 < c.length) := by
  obtain ⟨cs, h1, h2, h3, h4, h5⟩ := cyc_cs hi hp.into (n := p.length + 1) (by simp) (p.map (·.1)) [] List.nodup_nil (fun _ h => by cases h) (fun _ _ _ h => by cases h) (fun _ h => h)
  rw [List.nil_append] at h2
  refine ⟨cs, ⟨h1, ?_⟩, by rw [cycF_im, h5]⟩
  refine (List.perm_ext_iff_of_nodup h2 hp.nd).mpr fun x => ⟨h3 x, fun hx => ?_⟩
  have := h4 x hx
  rwa [List.nil_append] at this
theorem filt_flat {α : Type} (P : α → Bool) (cs : List (List α)) : (cs.flatten.filter P).length = (cs.map fun c => (c.filter P).length).sum := by
  induction cs with
  | nil => rfl
  | cons c cs ih => rw [List.flatten_cons, List.filter_append, List.length_append, ih, List.map_cons, List.sum_cons]
def mvF (f : Str → Str) (x : Str) : Bool := !decide (x = f x) && !decide (x = "")
theorem wt_parts {f : Str → Str} {c : List Str} (hc : Cy f c) (nd : c.Nodup) : wt c = (c.filter (mvF f)).length + (if decide (1 < c.length) && !hasS "" c then 1 else 0) := by
  unfold wt
  by_cases hl : 1 < c.length
  · rw [if_pos hl, decide_eq_true hl]
    have e : c.filter (mvF f) = c.filter fun x : Str => decide (x ≠ "") := by
      refine List.filter_congr fun x hx => ?_
      have mv := cy_moved hc nd hl hx
      unfold mvF
      have : ¬ x = f x := fun e => mv e.symm
      simp [this]
    rw [e, ← sum_if, non_gap nd]
    cases hasS "" c <;> simp
  · obtain ⟨s, rfl, e⟩ := cy_one hc hl
    rw [if_neg hl, decide_eq_false hl]
    have : mvF f s = false := by unfold mvF; simp [e]
    simp [this]
theorem sum_ite {α : Type} (P : α → Bool) (cs : List α) : (cs.map fun c => if P c then 1 else 0).sum = (cs.filter P).length := by
  induction cs with
  | nil => rfl
  | cons c cs ih =>
    rw [List.map_cons, List.sum_cons, ih, List.filter_cons]
    cases P c
    · simp
    · simp; omega
theorem sum_add' {α : Type} (l : List α) (a b : α → Nat) : (l.map fun x => a x + b x).sum = (l.map a).sum + (l.map b).sum := by
  induction l with
  | nil => rfl
  | cons x l ih => simp only [List.map_cons, List.sum_cons, ih]; omega
theorem gapd_gds {p : Pm} (hp : PmOk p) (hi : Inj (im p) (p.map (·.1))) {cs : List (List Str)} (C : Cs (im p) (p.map (·.1)) cs) : gapd p = gds cs := by
  obtain ⟨cs', C', e⟩ := alg_cs hp hi
  rw [gds_eq C C' hp.nd]
  have parts : gds cs' = (cs'.map fun c => (c.filter (mvF (im p))).length + (if decide (1 < c.length) && !hasS "" c then 1 else 0)).sum := by
    unfold gds
    congr 1
    exact List.map_congr_left fun c hc => wt_parts (C'.cy c hc) (C'.sub hp.nd c hc).1
  rw [parts, sum_add', ← filt_flat, sum_ite]
  unfold gapd
  rw [e, List.filter_filter]
  have e1 : (p.filter mv).length = (cs'.flatten.filter (mvF (im p))).length := by
    rw [(C'.pm.filter (mvF (im p))).length_eq]
    have e2 : (p.map (·.1)).filter (mvF (im p)) = (p.filter mv).map (·.1) := by
      rw [List.filter_map]
      congr 1
      refine List.filter_congr fun q hq => ?_
      have : im p q.1 = q.2 := by
        have m := map_im hp.nd
        rw [List.map_map] at m
        have := List.map_inj_left.mp m q hq
        exact this
      unfold mvF mv
      show (!decide (q.1 = im p q.1) && !decide (q.1 = "")) = _
      rw [this]
    rw [e2, List.length_map]
  rw [e1]
  congr 2
  refine List.filter_congr fun c _ => ?_
  rw [Bool.and_comm]
theorem odds_gds {p : Pm} (hp : PmOk p) (hi : Inj (im p) (p.map (·.1))) : odds (cyc p (p.map (·.1)) []) % 2 = ((gapd p : Nat) : Int) % 2 := by
  obtain ⟨cs, C, e⟩ := alg_cs hp hi
  rw [gapd_gds hp hi C, e]
  clear C e hi hp
  induction cs with
  | nil => rfl
  | cons c cs ih =>
    rw [List.filter_cons]
    have g : gds (c :: cs) = wt c + gds cs := rfl
    rw [g]
    by_cases hl : 1 < c.length
    · rw [if_pos (decide_eq_true hl), odds_cons]
      have : wt c = c.length - 1 ∨ wt c = c.length + 1 := by
        unfold wt
        rw [if_pos hl]
        cases hasS "" c <;> simp
      rcases this with w | w <;> rw [w] <;> omega
    · rw [if_neg (by rw [decide_eq_false hl]; exact Bool.false_ne_true)]
      have : wt c = 0 := by unfold wt; rw [if_neg hl]
      rw [this, Nat.zero_add]
      exact ih
end Iv

set_option maxRecDepth 100000
namespace Iv
open PySem
/-! ### permutations over the same labels -/
structure Prm (ks : List Str) (p : Pm) : Prop where
  kk : p.map (·.1) = ks
  ok : PmOk p
  inj : Inj (im p) ks
theorem cs_congr {f g : Str → Str} {ks : List Str} {cs : List (List Str)} (C : Cs f ks cs) (e : ∀ x ∈ ks, g x = f x) : Cs g ks cs := by
  refine ⟨fun c hc => ?_, C.pm⟩
  have sub : ∀ x ∈ c, x ∈ ks := fun x hx => C.pm.subset (List.mem_flatten.mpr ⟨c, hc, hx⟩)
  obtain ⟨s, r, rfl, p⟩ := C.cy c hc
  exact ⟨s, r, rfl, path_cg (e s (sub s List.mem_cons_self)) (fun y hy => e y (sub y (List.mem_cons_of_mem _ hy))) p⟩
section
variable {ks : List Str} {p : Pm}
theorem Prm.cs (P : Prm ks p) : ∃ cs, Cs (im p) ks cs ∧ gapd p = gds cs := by
  have hi : Inj (im p) (p.map (·.1)) := by rw [P.kk]; exact P.inj
  obtain ⟨cs, C, _⟩ := alg_cs P.ok hi
  refine ⟨cs, by rw [← P.kk]; exact C, gapd_gds P.ok hi C⟩
theorem Prm.gap (P : Prm ks p) {cs : List (List Str)} (C : Cs (im p) ks cs) : gapd p = gds cs := by
  have hi : Inj (im p) (p.map (·.1)) := by rw [P.kk]; exact P.inj
  exact gapd_gds P.ok hi (by rw [P.kk]; exact C)
theorem Prm.nd (P : Prm ks p) : ks.Nodup := by rw [← P.kk]; exact P.ok.nd
theorem Prm.into (P : Prm ks p) : ∀ x ∈ ks, im p x ∈ ks := fun x hx => by
  rw [← P.kk] at hx ⊢
  exact P.ok.into x hx
def mkp (ks : List Str) (g : Str → Str) : Pm := ks.map fun x => (x, g x)
theorem mkp_ok {g : Str → Str} (nd : ks.Nodup) (hl : ks.length < 100) (gi : ∀ x ∈ ks, g x ∈ ks) (gj : Inj g ks) : Prm ks (mkp ks g) ∧ ∀ x ∈ ks, im (mkp ks g) x = g x := by
  have e : (mkp ks g).map (·.1) = ks := by
    unfold mkp
    rw [List.map_map]
    exact List.map_id _
  have m : ∀ x ∈ ks, im (mkp ks g) x = g x := fun x hx => im_map hx
  refine ⟨⟨e, ⟨by rw [e]; exact nd, fun x hx => ?_, by unfold mkp; rw [List.length_map]; exact hl⟩, fun x hx y hy h => ?_⟩, m⟩
  · rw [e] at hx ⊢
    rw [m x hx]
    exact gi x hx
  · rw [m x hx, m y hy] at h
    exact gj x hx y hy h
theorem Prm.eq (P : Prm ks p) : p = mkp ks (im p) := by
  have h := map_im P.ok.nd
  rw [P.kk] at h
  unfold mkp
  have : ∀ (l : List Str) (p : Pm) (g : Str → Str), p.map (·.1) = l → l.map g = p.map (·.2) → p = l.map fun x => (x, g x) := fun l => by
    induction l with
    | nil =>
      intro p g h1 _
      cases p with
      | nil => rfl
      | cons q p => cases h1
    | cons x l ih =>
      intro p g h1 h2
      cases p with
      | nil => cases h1
      | cons q p =>
        obtain ⟨a, b⟩ := q
        obtain ⟨e1, e2⟩ := List.cons.inj h1
        obtain ⟨e3, e4⟩ := List.cons.inj h2
        have e1 : a = x := e1
        have e3 : g x = b := e3
        rw [List.map_cons, ← ih p g e2 e4, e1, e3]
  exact this ks p (im p) P.kk h
/-- the gap and a label exchanged -/
def sw (a x : Str) : Str := if x = "" then a else if x = a then "" else x
theorem sw_sw {a : Str} (h : a ≠ "") (x : Str) : sw a (sw a x) = x := by
  unfold sw
  by_cases h1 : x = ""
  · rw [if_pos h1, if_neg h, if_pos rfl, h1]
  · rw [if_neg h1]
    by_cases h2 : x = a
    · rw [if_pos h2, if_pos rfl, h2]
    · rw [if_neg h2, if_neg h1, if_neg h2]
theorem sw_in {a : Str} (hg : ("" : Str) ∈ ks) (ha : a ∈ ks) : ∀ x ∈ ks, sw a x ∈ ks := fun x hx => by
  unfold sw
  split
  · exact ha
  · split
    · exact hg
    · exact hx
theorem sw_inj {a : Str} (h : a ≠ "") : Inj (sw a) ks := fun x _ y _ e => by rw [← sw_sw h x, e, sw_sw h y]
theorem ex_sw (f : Str → Str) (a x : Str) : exF f "" a x = f (sw a x) := by
  unfold exF sw
  by_cases h1 : x = ""
  · rw [if_pos h1, if_pos h1]
  · rw [if_neg h1, if_neg h1]
    by_cases h2 : x = a
    · rw [if_pos h2, if_pos h2]
    · rw [if_neg h2, if_neg h2]
def bef (ks : List Str) (p : Pm) (a : Str) : Pm := mkp ks fun x => im p (sw a x)
def aft (ks : List Str) (p : Pm) (a : Str) : Pm := mkp ks fun x => sw a (im p x)
theorem bef_ok (P : Prm ks p) (hl : ks.length < 100) (hg : ("" : Str) ∈ ks) {a : Str} (ha : a ∈ ks) (hne : a ≠ "") :
    Prm ks (bef ks p a) ∧ (gapd (bef ks p a) = gapd p + 1 ∨ gapd (bef ks p a) + 1 = gapd p) ∧ (im p "" = a → gapd (bef ks p a) + 1 = gapd p) ∧ (im p "" = "" → im p a ≠ a → gapd (bef ks p a) + 1 = gapd p) := by
  obtain ⟨Q, m⟩ := mkp_ok (g := fun x => im p (sw a x)) P.nd hl (fun x hx => P.into _ (sw_in hg ha x hx)) (fun x hx y hy e => sw_inj hne x hx y hy (P.inj _ (sw_in hg ha x hx) _ (sw_in hg ha y hy) e))
  obtain ⟨cs, C, g1⟩ := P.cs
  obtain ⟨cs', C', s1, s2, s3⟩ := step_one C P.nd hg ha hne
  have C2 : Cs (im (bef ks p a)) ks cs' := cs_congr C' fun x hx => by rw [ex_sw]; exact m x hx
  have g2 := Q.gap C2
  have g2 : gapd (bef ks p a) = gds cs' := g2
  rw [g1, g2]
  exact ⟨Q, s1, s2, s3⟩
/-- some inverse -/
def inv0 (ks : List Str) (f : Str → Str) (y : Str) : Str := (ks.find? fun x => decide (f x = y)).getD y
theorem inv0_l {f : Str → Str} (hi : Inj f ks) {x : Str} (hx : x ∈ ks) : inv0 ks f (f x) = x := by
  unfold inv0
  cases h : ks.find? fun z => decide (f z = f x) with
  | none =>
    have := List.find?_eq_none.mp h x hx
    simp at this
  | some z =>
    have h1 : decide (f z = f x) = true := List.find?_some (p := fun z => decide (f z = f x)) h
    have h1 := of_decide_eq_true h1
    exact hi z (List.mem_of_find?_eq_some h) x hx h1
theorem Prm.pre (P : Prm ks p) {y : Str} (hy : y ∈ ks) : ∃ x ∈ ks, im p x = y := by
  obtain ⟨cs, C, _⟩ := P.cs
  obtain ⟨c, hc, hyc⟩ := C.find hy
  obtain ⟨x, hx, e⟩ := cy_pre (C.cy c hc) hyc
  exact ⟨x, C.pm.subset (List.mem_flatten.mpr ⟨c, hc, hx⟩), e⟩
def invp (ks : List Str) (p : Pm) : Pm := mkp ks (inv0 ks (im p))
theorem invp_ok (P : Prm ks p) (hl : ks.length < 100) : Prm ks (invp ks p) ∧ gapd (invp ks p) = gapd p ∧ ∀ x ∈ ks, im (invp ks p) (im p x) = x := by
  have l : ∀ x ∈ ks, inv0 ks (im p) (im p x) = x := fun x hx => inv0_l P.inj hx
  have into : ∀ y ∈ ks, inv0 ks (im p) y ∈ ks := fun y hy => by
    obtain ⟨x, hx, rfl⟩ := P.pre hy
    rw [l x hx]
    exact hx
  have inj : Inj (inv0 ks (im p)) ks := fun y hy z hz e => by
    obtain ⟨x, hx, rfl⟩ := P.pre hy
    obtain ⟨w, hw, rfl⟩ := P.pre hz
    rw [l x hx, l w hw] at e
    rw [e]
  obtain ⟨Q, m⟩ := mkp_ok P.nd hl into inj
  obtain ⟨cs, C, g1⟩ := P.cs
  obtain ⟨cs', C', g2⟩ := cs_inv C P.nd l
  have C2 : Cs (im (invp ks p)) ks cs' := cs_congr C' fun x hx => m x hx
  refine ⟨Q, ?_, fun x hx => ?_⟩
  · rw [g1, ← g2]
    exact Q.gap C2
  · exact (m _ (P.into x hx)).trans (l x hx)
theorem aft_ok (P : Prm ks p) (hl : ks.length < 100) (hg : ("" : Str) ∈ ks) {a : Str} (ha : a ∈ ks) (hne : a ≠ "") :
    Prm ks (aft ks p a) ∧ (gapd (aft ks p a) = gapd p + 1 ∨ gapd (aft ks p a) + 1 = gapd p) := by
  obtain ⟨Q, m⟩ := mkp_ok (g := fun x => sw a (im p x)) P.nd hl (fun x hx => sw_in hg ha _ (P.into x hx)) (fun x hx y hy e => P.inj x hx y hy (sw_inj hne _ (P.into x hx) _ (P.into y hy) e))
  obtain ⟨I, gi, li⟩ := invp_ok P hl
  obtain ⟨B, b1, _⟩ := bef_ok I hl hg ha hne
  obtain ⟨cs, C, g1⟩ := B.cs
  -- what stands before the inverse undoes what stands behind
  have mB : ∀ x ∈ ks, im (bef ks (invp ks p) a) x = im (invp ks p) (sw a x) := fun x hx => im_map hx
  obtain ⟨J, gj, lj⟩ := invp_ok Q hl
  have eq : ∀ y ∈ ks, im (bef ks (invp ks p) a) y = im (invp ks (aft ks p a)) y := fun y hy => by
    obtain ⟨x, hx, rfl⟩ := Q.pre hy
    have e2 : im (aft ks p a) x = sw a (im p x) := m x hx
    have e3 : im (invp ks (aft ks p a)) (im (aft ks p a) x) = x := lj x hx
    have e4 : im (bef ks (invp ks p) a) (im (aft ks p a) x) = x := by
      have hy : im (aft ks p a) x ∈ ks := Q.into x hx
      rw [mB _ hy, e2, sw_sw hne]
      exact li x hx
    exact e4.trans e3.symm
  have C2 : Cs (im (invp ks (aft ks p a))) ks cs := cs_congr C fun y hy => (eq y hy).symm
  have g2 : gapd (invp ks (aft ks p a)) = gds cs := J.gap C2
  have g3 : gapd (aft ks p a) = gapd (bef ks (invp ks p) a) := by
    rw [g1, ← g2]
    exact gj.symm
  refine ⟨Q, ?_⟩
  rw [g3]
  rwa [gi] at b1
theorem idp_ok (nd : ks.Nodup) (hl : ks.length < 100) : Prm ks (mkp ks id) ∧ gapd (mkp ks id) = 0 := by
  obtain ⟨Q, m⟩ := mkp_ok (g := id) nd hl (fun x hx => hx) (fun x _ y _ e => e)
  refine ⟨Q, ?_⟩
  have C : Cs (im (mkp ks id)) ks (ks.map fun x => [x]) := by
    refine ⟨fun c hc => ?_, ?_⟩
    · obtain ⟨x, hx, rfl⟩ := List.mem_map.mp hc
      exact ⟨x, [], rfl, m x hx⟩
    · have : (ks.map fun x => [x]).flatten = ks := by
        clear Q m nd hl
        induction ks with
        | nil => rfl
        | cons x l ih => rw [List.map_cons, List.flatten_cons, ih]; rfl
      rw [this]
  rw [Q.gap C]
  unfold gds
  rw [List.map_map, List.sum_eq_zero_iff_forall_eq_nat]
  intro n hn
  obtain ⟨x, _, rfl⟩ := List.mem_map.mp hn
  rfl
theorem gap_down (P : Prm ks p) (hl : ks.length < 100) (hg : ("" : Str) ∈ ks) (h : ∃ x ∈ ks, im p x ≠ x) : ∃ a ∈ ks, a ≠ "" ∧ gapd (bef ks p a) + 1 = gapd p := by
  by_cases g : im p "" = ""
  · obtain ⟨x, hx, hne⟩ := h
    have hx0 : x ≠ "" := fun e => by
      subst e
      exact hne g
    obtain ⟨_, _, _, s⟩ := bef_ok P hl hg hx hx0
    exact ⟨x, hx, hx0, s g hne⟩
  · have ha := P.into _ hg
    obtain ⟨_, _, s, _⟩ := bef_ok P hl hg ha g
    exact ⟨_, ha, g, s rfl⟩
theorem gap_zero (P : Prm ks p) (hl : ks.length < 100) (hg : ("" : Str) ∈ ks) : gapd p = 0 ↔ ∀ x ∈ ks, im p x = x := by
  constructor
  · intro h x hx
    by_cases e : im p x = x
    · exact e
    · obtain ⟨a, _, _, s⟩ := gap_down P hl hg ⟨x, hx, e⟩
      omega
  · intro h
    obtain ⟨cs, C, g⟩ := P.cs
    obtain ⟨Q, z⟩ := idp_ok P.nd hl
    obtain ⟨cs2, C2, g2⟩ := Q.cs
    have m : ∀ x ∈ ks, im (mkp ks id) x = x := fun x hx => im_map hx
    have C3 : Cs (im p) ks cs2 := cs_congr C2 fun x hx => by rw [h x hx, m x hx]
    rw [g, gds_eq C C3 P.nd, ← g2]
    exact z
end
end Iv

set_option maxRecDepth 100000
namespace Iv
open PySem
theorem rangeL_map : ∀ (n : Nat) (lo : Int), rangeL lo n = (List.range n).map fun i : Nat => D.int (lo + i)
  | 0, _ => rfl
  | n + 1, lo => by
    rw [List.range_succ_eq_map, List.map_cons, List.map_map]
    show D.int lo :: rangeL (lo + 1) n = _
    rw [rangeL_map n (lo + 1)]
    congr 1
    · simp
    · refine List.map_congr_left fun i _ => ?_
      show D.int (lo + 1 + (i : Int)) = D.int (lo + ((i + 1 : Nat) : Int))
      congr 1
      omega
/-- a comprehension whose turns leave the store as it was -/
theorem lc_ok {F : Fns} {e : IE} {t : IT} {it : II} {c : IO} {ρ : Env} {S S1 : Store} {xs : List D} {src : Src} (g : D → Option D) (hi : evI F it ρ S = .ok (xs, src) S1) (hz : xs.length < 1000000) (hs : ∀ acc, src.ok (S1 ++ [.lst acc]) = true)
    (hf : ∀ x ∈ xs, ∀ acc, ∃ T, turnC F e t c ρ x (S1 ++ [.lst acc]) = .ok (g x) (S1 ++ [.lst acc] ++ T)) (hc : ∀ x ∈ xs, ∀ d, g x = some d → d.cl S1.length = true) :
    evE F (.lc e t it c) ρ S = .ok (.loc S1.length) (S1 ++ [.lst (xs.filterMap g)]) := by
  have h := loopC_pure (src := src) (f := turnC F e t c ρ) (xs := xs) (S := S1) g (by rw [sizeLine_eq]; omega) hs hf hc
  rw [ev_lc, hi, bind_ok]
  show (loopC src (turnC F e t c ρ) S1.length xs (S1 ++ [.lst []])).bind _ = _
  rw [h, bind_ok]
theorem rng_ok {F : Fns} {ρ : Env} {S : Store} {e : IE} {n : Nat} (h : evE F e ρ S = .ok (.int n) S) (hn : n < 10 ^ 9) : evI F (.range (.cons e .nil)) ρ S = .ok (rangeL 0 n, .free) S := by
  simp only [evi_range, evs_cons, evs_nil, h, bind_ok, range_n hn]
theorem filterMap_some {α β : Type} (f : α → β) (l : List α) : l.filterMap (fun x => some (f x)) = l.map f := by
  induction l with
  | nil => rfl
  | cons x l ih => rw [List.filterMap_cons, ih]; rfl
theorem perm_ints {ys : List D} {l : List Int} (h : ys.Perm (l.map D.int)) : ∃ l' : List Int, ys = l'.map D.int ∧ l'.Perm l := by
  let g : D → Option Int := fun d => match d with | .int x => some x | _ => none
  have e1 : ∀ l : List Int, (l.map D.int).filterMap g = l := fun l => by
    induction l with
    | nil => rfl
    | cons x l ih =>
      show (D.int x :: l.map D.int).filterMap g = _
      rw [List.filterMap_cons]
      show x :: (l.map D.int).filterMap g = _
      rw [ih]
  have e2 : ∀ ys : List D, (∀ y ∈ ys, ∃ x, y = .int x) → ys = (ys.filterMap g).map D.int := fun ys => by
    induction ys with
    | nil => exact fun _ => rfl
    | cons y ys ih =>
      intro h
      obtain ⟨x, rfl⟩ := h y List.mem_cons_self
      rw [List.filterMap_cons]
      show _ = D.int x :: (ys.filterMap g).map D.int
      rw [← ih fun y hy => h y (List.mem_cons_of_mem _ hy)]
  refine ⟨ys.filterMap g, e2 ys fun y hy => ?_, ?_⟩
  · obtain ⟨x, _, e⟩ := List.mem_map.mp (h.subset hy)
    exact ⟨x, e.symm⟩
  · have := h.filterMap g
    rwa [e1] at this
def upto (n : Nat) : List Int := (List.range n).map fun i : Nat => (i : Int)
theorem upto_len (n : Nat) : (upto n).length = n := by simp [upto]
theorem rangeL_upto (n : Nat) : rangeL 0 n = (upto n).map D.int := by
  rw [rangeL_map]
  unfold upto
  rw [List.map_map]
  refine List.map_congr_left fun i _ => ?_
  simp
theorem cls_ints (n : Nat) (l : List Int) : D.cls n (l.map D.int) = true := by
  rw [cls_mem]
  intro y hy
  obtain ⟨z, _, rfl⟩ := List.mem_map.mp hy
  rfl
theorem in_lst {x : Str} {c : List Str} {S : Store} {n : Nat} (h : S[n]? = some (.lst (sd c))) : cmpD .In (.str x) (.loc n) S = some (hasS x c) := by
  have := in_tup (x := x) (c := c) (S := S)
  have e : cmpD .In (.str x) (.loc n) S = inL (.str x) (sd c) S := by
    show inD (.str x) (.loc n) S = _
    simp only [inD, h]
  rw [e]
  exact this
theorem nin_lst {x : Str} {c : List Str} {S : Store} {n : Nat} (h : S[n]? = some (.lst (sd c))) : cmpD .NotIn (.str x) (.loc n) S = some (!hasS x c) := by
  show (cmpD .In (.str x) (.loc n) S).map not = _
  rw [in_lst h]
  rfl
theorem eq_nil {c : List Str} {S : Store} {n m : Nat} (h : S[n]? = some (.lst (sd c))) (h2 : S[m]? = some (.lst [])) : cmpD .Eq (.loc n) (.loc m) S = some (decide (c = [])) := by
  show eqD (.loc n) (.loc m) S = _
  have e1 : toPy S 8 (.loc n) = some (.list (c.map PyData.str)) := by
    show ((lstAt S n).bind fun xs => (mapO (toPy S 7) xs).map PyData.list) = _
    have : lstAt S n = some (sd c) := by simp [lstAt, h]
    rw [this]
    show (mapO (toPy S 7) (sd c)).map PyData.list = _
    rw [mapO_sd]
    rfl
  have e2 : toPy S 8 (.loc m) = some (.list []) := by
    show ((lstAt S m).bind fun xs => (mapO (toPy S 7) xs).map PyData.list) = _
    have : lstAt S m = some [] := by simp [lstAt, h2]
    rw [this]
    rfl
  unfold eqD
  rw [e1, e2]
  cases c with
  | nil => rfl
  | cons x c => rfl
/-- a for over a range whose turns leave the store, and a slot apart the slots, as they were -/
theorem for_still {F : Fns} {e : IE} {b : ISs} {ρ : Env} {S : Store} {n v : Nat} (he : evE F e ρ S = .ok (.int (n : Nat)) S) (hn : n < 10 ^ 9) (hv : v < ρ.length) {o0 : Option D} (hρ : ρ[v]? = some o0) (P : Env → Prop) (h0 : P ρ)
    (hb : ∀ i : Nat, i < n → ∀ ρ', P ρ' → ∃ ρ'', P ρ'' ∧ ((asgT F (.nm v) (.int i) ρ' S).bindS fun ρ' S' => evSs F b ρ' S') = .nx ρ'' S) : ∃ ρ', P ρ' ∧ evS F (.for_ (.nm v) (.range (.cons e .nil)) b) ρ S = .nx ρ' S := by
  have key := loopF_all (src := .free) (f := fun x ρ S => (asgT F (.nm v) x ρ S).bindS (fun ρ' S' => evSs F b ρ' S')) (xs := rangeL 0 n) (ρ := ρ) (S := S) (fun i ρ' S' => P ρ' ∧ S' = S) ⟨h0, rfl⟩ (fun i x ρ' S' ⟨e1, e2⟩ hi => by
    subst e2
    obtain ⟨rfl, hi2⟩ := rangeL_get hi
    rw [Int.zero_add]
    obtain ⟨ρ'', p, q⟩ := hb i hi2 ρ' e1
    exact ⟨rfl, ρ'', _, .inl q, p, rfl⟩) (fun _ _ _ => rfl)
  obtain ⟨ρ', S', e0, p, e2⟩ := key
  subst e2
  refine ⟨ρ', p, ?_⟩
  rw [st_for', rng_ok he hn]
  exact e0
theorem mul_small {a b : Nat} (ha : a < 1000) (hb : b < 1000) : opI .Mult (a : Int) (b : Int) = some ((a * b : Nat) : Int) := by
  rw [opi_mul]
  · congr 1
  · have h1 : (a : Int).natAbs.log2 ≤ 1000 := by rw [Int.natAbs_natCast]; exact Nat.le_trans (Nat.log2_le_self _) (by omega)
    have h2 : (b : Int).natAbs.log2 ≤ 1000 := by rw [Int.natAbs_natCast]; exact Nat.le_trans (Nat.log2_le_self _) (by omega)
    omega
end Iv

set_option maxRecDepth 100000
namespace Iv
open PySem
/-! ### before, after -/
def swd (a : Str) : List (Key × D) := [(.inr "", .str a), (.inr a, .str "")]
theorem get_sw {a x : Str} (h : a ≠ "") : (lookA (Sum.inr x : Key) (swd a)).getD (.str x) = .str (sw a x) := by
  show ((if (Sum.inr "" : Key) = .inr x then some (D.str a) else if (Sum.inr a : Key) = .inr x then some (D.str "") else none)).getD (.str x) = D.str (if x = "" then a else if x = a then "" else x)
  by_cases h1 : x = ""
  · rw [if_pos (by rw [h1]), if_pos h1]
    rfl
  · rw [if_neg (fun e => h1 (Sum.inr.inj e).symm), if_neg h1]
    by_cases h2 : x = a
    · rw [if_pos (by rw [h2]), if_pos h2]
      rfl
    · rw [if_neg (fun e => h2 (Sum.inr.inj e).symm), if_neg h2]
      rfl
theorem get2_sw {a x : Str} (h : a ≠ "") {S : Store} {n : Nat} (hn : S[n]? = some (.dct false (swd a))) : bmD .get2 (.loc n) [.str x, .str x] S = .ok (.str (sw a x)) S := by
  simp only [bmD, hn]
  show ok? (some ((lookA (Sum.inr x : Key) (swd a)).getD (.str x))) S = _
  rw [get_sw h]
  rfl
theorem get2_k {a : Str} {S : Store} {n : Nat} (hn : S[n]? = some (.dct false (swd a))) : bmK .get2 (.loc n) S = true := by simp only [bmK, hn]
theorem dis_sw {F : Fns} {ρ : Env} {S : Store} {a : Str} (h : a ≠ "") (h1 : ρ[1]? = some (some (.str a))) : evE F (.dis (.cons (.con (.str "")) (.cons (.var 1) (.cons (.var 1) (.cons (.con (.str "")) (.nil)))))) ρ S = .ok (.loc S.length) (S ++ [Cell.dct false (swd a)]) := by
  have e : evEs F (.cons (.con (.str "")) (.cons (.var 1) (.cons (.var 1) (.cons (.con (.str "")) (.nil))))) ρ (S ++ [Cell.dct false []]) = .ok [.str "", .str a, .str a, .str ""] (S ++ [Cell.dct false []]) := by
    generalize S ++ [Cell.dct false []] = U
    simp [h1]
  simp only [evE, e, bind_ok]
  have p : pairUp [.str "", .str a, .str a, .str ""] = some [(.inr "", .str a), (.inr a, .str "")] := rfl
  rw [p]
  have f : fromPairs [] [((Sum.inr "" : Key), D.str a), (.inr a, .str "")] = swd a := by
    show putA (Sum.inr a : Key) (.str "") [(.inr "", D.str a)] = _
    show (if (Sum.inr "" : Key) = .inr a then _ else _) = _
    rw [if_neg fun z => h (Sum.inr.inj z).symm]
    rfl
  have g : (S ++ [Cell.dct false []])[S.length]? = some (.dct false []) := by rw [get_app0]; rfl
  show (if (S ++ [Cell.dct false []])[S.length]? = some (.dct false []) ∧ 2 ≤ 15 then Out.ok (D.loc S.length) ((S ++ [Cell.dct false []]).set S.length (.dct false (fromPairs [] [((Sum.inr "" : Key), D.str a), (.inr a, .str "")]))) else .bad) = _
  rw [if_pos ⟨g, by decide⟩, f, set_new0]
  rfl
theorem pd_mkp (ks : List Str) (g : Str → Str) : pd (mkp ks g) = ks.map fun x => .tup [.str x, .str (g x)] := by
  unfold pd mkp
  rw [List.map_map]
  rfl
theorem pd_cls (n : Nat) (p : Pm) : D.cls n (pd p) = true := by
  rw [cls_mem]
  intro y hy
  obtain ⟨z, _, rfl⟩ := List.mem_map.mp hy
  rfl
section
variable {Γ : Nat → Option FDef} {k : Nat} {S : Store} {ks : List Str} {p : Pm} {a : Str}
theorem wo_call (h : Γ i__law_without_2 = some f__law_without_2) (P : Prm ks p) (hl : ks.length < 100) (hg : ("" : Str) ∈ ks) (ha : a ∈ ks) (hne : a ≠ "") : callN Γ (k + 1) i__law_without_2 [.tup (pd p), .str a] S = .ok (.tup (pd (bef ks p a))) S := by
  have nk : (p.map (·.1)).Nodup := by rw [P.kk]; exact P.nd
  have d1 := dis_sw (F := callN Γ k) (ρ := [some (.tup (pd p)), some (.str a), none, none, none, none]) (S := S) hne rfl
  have d2 := dict_pd nk (S := S ++ [Cell.dct false (swd a)])
  have g2 : ∀ L, (S ++ [Cell.dct false (swd a)] ++ [Cell.dct false (kd p)] ++ L)[S.length]? = some (.dct false (swd a)) := fun L => by rw [List.append_assoc, List.append_assoc, get_app0]; rfl
  have g3 : ∀ L, (S ++ [Cell.dct false (swd a)] ++ [Cell.dct false (kd p)] ++ L)[(S ++ [Cell.dct false (swd a)]).length]? = some (.dct false (kd p)) := fun L => by rw [List.append_assoc, get_app0]; rfl
  have lc := lc_ok (F := callN Γ k) (e := .tup (.cons (.var 4) (.cons (.ix (.var 3) (.bm .get2 (.var 2) (.cons (.var 4) (.cons (.var 4) (.nil))))) (.nil)))) (t := .tup (.cons (.nm 4) (.cons (.nm 5) (.nil)))) (c := .none) (ρ := [some (.tup (pd p)), some (.str a), some (.loc S.length), some (.loc (S ++ [Cell.dct false (swd a)]).length), none, none]) (S := S ++ [Cell.dct false (swd a)] ++ [Cell.dct false (kd p)]) (S1 := S ++ [Cell.dct false (swd a)] ++ [Cell.dct false (kd p)]) (it := .val (.var 0)) (xs := pd p) (src := .free)
    (fun x => match x with | .tup [.str y, .str _] => some (.tup [.str y, .str (im p (sw a y))]) | _ => none) rfl (by
      have : (pd p).length = p.length := by simp [pd]
      have := key_len P.kk
      omega) (fun _ => rfl) (fun x hx acc => ⟨[], by
      obtain ⟨q, hq, rfl⟩ := List.mem_map.mp hx
      have hk : q.1 ∈ ks := by rw [← P.kk]; exact List.mem_map.mpr ⟨q, hq, rfl⟩
      have hk2 : sw a q.1 ∈ p.map (·.1) := by rw [P.kk]; exact sw_in hg ha _ hk
      have G2 := g2 [.lst acc]
      have G3 := g3 [.lst acc]
      have e1 := get2_sw (x := q.1) hne G2
      have e2 := get2_k G2
      generalize S ++ [Cell.dct false (swd a)] ++ [Cell.dct false (kd p)] ++ [.lst acc] = U at *
      generalize (S ++ [Cell.dct false (swd a)]).length = n3 at *
      simp [turnC, bindT, bindTs, slotsT, slotsTs, wipeE, evC, e2, e1, G3, look_kd hk2]⟩) (fun x hx d hd => by
      obtain ⟨q, _, rfl⟩ := List.mem_map.mp hx
      cases hd
      rfl)
  have e : ∀ l : Pm, (pd l).filterMap (fun x => match x with | .tup [.str y, .str _] => some (D.tup [.str y, .str (im p (sw a y))]) | _ => none) = (l.map (·.1)).map fun y => .tup [.str y, .str (im p (sw a y))] := fun l => by
    induction l with
    | nil => rfl
    | cons q l ih =>
      show List.filterMap _ (.tup [.str q.1, .str q.2] :: pd l) = _
      rw [List.filterMap_cons, ih]
      rfl
  rw [e, P.kk, ← pd_mkp] at lc
  have tl := tup_loc (S := S ++ [Cell.dct false (swd a)] ++ [Cell.dct false (kd p)] ++ [.lst (pd (bef ks p a))]) (n := (S ++ [Cell.dct false (swd a)] ++ [Cell.dct false (kd p)]).length) (xs := pd (bef ks p a)) (by rw [get_app0]; rfl)
  have gd : gc S (.tup (pd (bef ks p a))) (S ++ [Cell.dct false (swd a)] ++ [Cell.dct false (kd p)] ++ [.lst (pd (bef ks p a))]) = .ok (.tup (pd (bef ks p a))) S := by
    rw [List.append_assoc, List.append_assoc]
    exact gc_drop (by rw [cl_tup]; exact pd_cls _ _)
  have lc : evE (callN Γ k) _ _ _ = .ok _ (S ++ [Cell.dct false (swd a)] ++ [Cell.dct false (kd p)] ++ [.lst (pd (bef ks p a))]) := lc
  rw [callN_eq h rfl]
  simp only [f__law_without_2]
  generalize S ++ [Cell.dct false (swd a)] ++ [Cell.dct false (kd p)] ++ [.lst (pd (bef ks p a))] = U at *
  generalize S ++ [Cell.dct false (swd a)] ++ [Cell.dct false (kd p)] = V at *
  generalize S ++ [Cell.dct false (swd a)] = W at *
  simp [d1, d2, lc, tl, gd]
end
end Iv

set_option maxRecDepth 100000
namespace Iv
open PySem
/-! ### comprehensions over a list, over pairs -/
theorem lcG {α : Type} {F : Fns} {ρ : Env} {S : Store} {n v rv : Nat} {e : IE} {c : IO} {xs : List α} (en : α → D) (kf : α → Bool) (r : α → D) (hr : ρ[rv]? = some (some (.loc n))) (hn : S[n]? = some (.lst (xs.map en))) (hv : v < ρ.length) (hl : xs.length < 1000)
    (h : ∀ x ∈ xs, ∀ acc, evC F c ((wipeE ρ [v]).set v (some (en x))) (S ++ [.lst acc]) = .ok (kf x) (S ++ [.lst acc]) ∧ (kf x = true → evE F e ((wipeE ρ [v]).set v (some (en x))) (S ++ [.lst acc]) = .ok (r x) (S ++ [.lst acc]))) (hc : ∀ x ∈ xs, (r x).cl S.length = true) :
    evE F (.lc e (.nm v) (.val (.var rv)) c) ρ S = .ok (.loc S.length) (S ++ [.lst ((xs.filter kf).map r)]) := by
  have hl' : v < (wipeE ρ [v]).length := by simpa [wipeE] using hv
  have ei : evI F (.val (.var rv)) ρ S = .ok (xs.map en, .lst n (xs.map en)) S := by
    rw [evi_val, ev_var, hr]
    simp [walkOf, seqOf, lstAt, hn, srcOf]
  have hnl := (List.getElem?_eq_some_iff.mp hn).1
  have loop : ∃ S', loopC (.lst n (xs.map en)) (turnC F e (.nm v) c ρ) S.length (xs.map en) (S ++ [.lst []]) = .ok () S' ∧ S' = S ++ [.lst (((xs.take (xs.map en).length).filter kf).map r)] := by
    refine loopC_all (src := .lst n (xs.map en)) (S := S ++ [Cell.lst []]) (fun i S' => S' = S ++ [.lst (((xs.take i).filter kf).map r)]) (by simp) (fun i x S' e1 hi => ?_) (fun S' e1 => by
      subst e1
      exact decide_eq_true (by unfold lstAt; rw [get_old hn]))
    subst e1
    rw [List.getElem?_map] at hi
    obtain ⟨y, hy, rfl⟩ := Option.map_eq_some_iff.mp hi
    have hm := List.mem_of_getElem? hy
    refine ⟨decide_eq_true (by unfold lstAt; rw [get_old hn]), ?_⟩
    obtain ⟨h1, h2⟩ := h y hm (((xs.take i).filter kf).map r)
    have tk : xs.take (i + 1) = xs.take i ++ [y] := by rw [List.take_succ, hy]; rfl
    have g : (S ++ [Cell.lst (((xs.take i).filter kf).map r)])[S.length]? = some (.lst (((xs.take i).filter kf).map r)) := by rw [get_app0]; rfl
    have zl : (((xs.take i).filter kf).map r).length < sizeLine := by
      rw [List.length_map, sizeLine_eq]
      have := List.length_filter_le kf (xs.take i)
      rw [List.length_take] at this
      omega
    cases hk : kf y with
    | true =>
      have h2 := h2 hk
      rw [hk] at h1
      have tn : turnC F e (.nm v) c ρ (en y) (S ++ [.lst (((xs.take i).filter kf).map r)]) = .ok (some (r y)) (S ++ [.lst (((xs.take i).filter kf).map r)]) := by
        generalize S ++ [Cell.lst (((xs.take i).filter kf).map r)] = U at *
        simp [turnC, bindT, slotsT, hl', h1, h2]
      refine ⟨S ++ [.lst (((xs.take (i + 1)).filter kf).map r)], ?_, rfl⟩
      unfold oneC
      rw [tn]
      show (gc _ _ _).bind _ = _
      rw [gc_same (D.cl_mono (by simp) (hc y hm)), bind_ok]
      simp only [g]
      rw [if_pos zl, set_new0, tk, List.filter_append, List.map_append]
      simp [hk]
    | false =>
      rw [hk] at h1
      have tn : turnC F e (.nm v) c ρ (en y) (S ++ [.lst (((xs.take i).filter kf).map r)]) = .ok none (S ++ [.lst (((xs.take i).filter kf).map r)]) := by
        generalize S ++ [Cell.lst (((xs.take i).filter kf).map r)] = U at *
        simp [turnC, bindT, slotsT, hl', h1]
      refine ⟨S ++ [.lst (((xs.take (i + 1)).filter kf).map r)], ?_, rfl⟩
      unfold oneC
      rw [tn]
      show (gc _ _ _).bind _ = _
      rw [gc_same rfl, bind_ok, tk, List.filter_append]
      simp [hk]
  obtain ⟨S', e1, e2⟩ := loop
  rw [List.length_map, List.take_of_length_le (Nat.le_refl _)] at e2
  rw [ev_lc, ei, bind_ok]
  show (loopC (.lst n (xs.map en)) _ S.length (xs.map en) (S ++ [.lst []])).bind _ = _
  rw [e1, bind_ok, e2]
theorem lcP {F : Fns} {ρ : Env} {S : Store} {i j rv : Nat} {e : IE} {c : IO} {p : Pm} (kf : Str × Str → Bool) (r : Str × Str → D) (hr : ρ[rv]? = some (some (.tup (pd p)))) (hi : i < ρ.length) (hj : j < ρ.length) (hl : p.length < 1000)
    (h : ∀ q ∈ p, ∀ acc, evC F c (((wipeE ρ [i, j]).set i (some (.str q.1))).set j (some (.str q.2))) (S ++ [.lst acc]) = .ok (kf q) (S ++ [.lst acc]) ∧ (kf q = true → evE F e (((wipeE ρ [i, j]).set i (some (.str q.1))).set j (some (.str q.2))) (S ++ [.lst acc]) = .ok (r q) (S ++ [.lst acc]))) (hc : ∀ q ∈ p, (r q).cl S.length = true) :
    evE F (.lc e (.tup (.cons (.nm i) (.cons (.nm j) (.nil)))) (.val (.var rv)) c) ρ S = .ok (.loc S.length) (S ++ [.lst ((p.filter kf).map r)]) := by
  have hi' : i < (wipeE ρ [i, j]).length := by simpa [wipeE] using hi
  have hj' : j < (wipeE ρ [i, j]).length := by simpa [wipeE] using hj
  have hls : (pd p).length = p.length := by simp [pd]
  have lc := lc_ok (F := F) (e := e) (t := .tup (.cons (.nm i) (.cons (.nm j) (.nil)))) (c := c) (ρ := ρ) (S := S) (S1 := S) (it := .val (.var rv)) (xs := pd p) (src := .free)
    (fun x => match x with | .tup [.str a, .str b] => if kf (a, b) then some (r (a, b)) else none | _ => none) (by rw [evi_val, ev_var, hr]; rfl) (by omega) (fun _ => rfl) (fun x hx acc => ⟨[], by
      obtain ⟨q, hq, rfl⟩ := List.mem_map.mp hx
      obtain ⟨h1, h2⟩ := h q hq acc
      obtain ⟨a, b⟩ := q
      cases hk : kf (a, b) with
      | true =>
        have h2 := h2 hk
        rw [hk] at h1
        generalize S ++ [Cell.lst acc] = U at *
        simp only [turnC, bindT, bindTs, slotsT, slotsTs, List.cons_append, List.nil_append, hi', if_true, Option.bind_some, List.length_set, hj', h1, bind_ok, h2, hk]
        simp
      | false =>
        rw [hk] at h1
        generalize S ++ [Cell.lst acc] = U at *
        simp only [turnC, bindT, bindTs, slotsT, slotsTs, List.cons_append, List.nil_append, hi', if_true, Option.bind_some, List.length_set, hj', h1, bind_ok, hk]
        simp⟩) (fun x hx d hd => by
      obtain ⟨q, hq, rfl⟩ := List.mem_map.mp hx
      by_cases z : kf (q.1, q.2) = true
      · simp [z] at hd; subst hd; exact hc q hq
      · simp [z] at hd)
  have e2 : ∀ l : Pm, (pd l).filterMap (fun x => match x with | .tup [.str a, .str b] => if kf (a, b) then some (r (a, b)) else none | _ => none) = (l.filter kf).map r := fun l => by
    induction l with
    | nil => rfl
    | cons q l ih =>
      show List.filterMap _ (.tup [.str q.1, .str q.2] :: pd l) = _
      rw [List.filterMap_cons, ih, List.filter_cons]
      cases hk : kf q <;> simp [hk]
  rw [e2] at lc
  exact lc
theorem nil_ne {S : Store} {n m : Nat} (h : S[n]? = some (.lst [])) (h2 : S[m]? = some (.lst [])) : cmpD .NotEq (.loc n) (.loc m) S = some false := by
  show (cmpD .Eq (.loc n) (.loc m) S).map not = _
  rw [eq_nil (c := []) h h2]
  rfl
theorem ne_nil {c : List Str} {S : Store} {n m : Nat} (h : S[n]? = some (.lst (sd c))) (h2 : S[m]? = some (.lst [])) : cmpD .NotEq (.loc n) (.loc m) S = some (!decide (c = [])) := by
  show (cmpD .Eq (.loc n) (.loc m) S).map not = _
  rw [eq_nil h h2]
  rfl
theorem mapO_ints {S : Store} {n : Nat} : ∀ l : List Int, mapO (toPy S n) (l.map D.int) = some (l.map PyData.int)
  | [] => rfl
  | x :: l => by
    have e : toPy S n (.int x) = some (.int x) := by cases n <;> rfl
    show mapO (toPy S n) (.int x :: l.map D.int) = _
    simp only [mapO, e, mapO_ints l, List.map_cons]
theorem any_ints {c : Int} : ∀ l : List Int, ((l.map PyData.int).any fun z => PyData.eqv z (.int c)) = decide (c ∈ l)
  | [] => rfl
  | x :: l => by
    rw [List.map_cons, List.any_cons, any_ints l]
    show ((x == c) || decide (c ∈ l)) = _
    by_cases e : x = c
    · simp [e]
    · have : ¬ c = x := fun z => e z.symm
      simp [e, this]
theorem in_ints {c : Int} {l : List Int} {S : Store} {n : Nat} (h : S[n]? = some (.lst (l.map D.int))) : cmpD .NotIn (.int c) (.loc n) S = some (!decide (c ∈ l)) := by
  show (inD (.int c) (.loc n) S).map not = _
  simp only [inD, h, inL, mapO_ints]
  show (some ((l.map PyData.int).any fun z => PyData.eqv z (.int c))).map not = _
  rw [any_ints]
  rfl
theorem in_intsT {c : Int} {l : List Int} {S : Store} : cmpD .NotIn (.int c) (.tup (l.map D.int)) S = some (!decide (c ∈ l)) := by
  show (inD (.int c) (.tup (l.map D.int)) S).map not = _
  simp only [inD, inL, mapO_ints]
  show (some ((l.map PyData.int).any fun z => PyData.eqv z (.int c))).map not = _
  rw [any_ints]
  rfl
theorem filt_all {α : Type} (l : List α) : l.filter (fun _ => true) = l := List.filter_eq_self.mpr fun _ _ => rfl
def lbs (ks : List Str) : List Str := ks.filter fun x => !decide (x = "")
theorem lbs_in {ks : List Str} {x : Str} (h : x ∈ lbs ks) : x ∈ ks ∧ x ≠ "" := by
  obtain ⟨h1, h2⟩ := List.mem_filter.mp h
  refine ⟨h1, fun e => ?_⟩
  rw [e] at h2
  simp at h2
theorem in_lbs {ks : List Str} {x : Str} (h : x ∈ ks) (h2 : x ≠ "") : x ∈ lbs ks := List.mem_filter.mpr ⟨h, by simp [h2]⟩
theorem lbs_len (ks : List Str) : (lbs ks).length ≤ ks.length := List.length_filter_le _ _
section
variable {ks : List Str} {p : Pm}
def mvl (p : Pm) : List Str := (p.filter fun q : Str × Str => !decide (q.1 = q.2)).map (·.1)
theorem mvl_zero (P : Prm ks p) (hl : ks.length < 100) (hg : ("" : Str) ∈ ks) : decide ((gapd p : Int) = 0) = decide (mvl p = []) := by
  refine decide_eq_decide.mpr ?_
  have h1 : ((gapd p : Nat) : Int) = 0 ↔ gapd p = 0 := by omega
  rw [h1, gap_zero P hl hg]
  have m := map_im P.ok.nd
  rw [List.map_map] at m
  have m2 : ∀ q ∈ p, im p q.1 = q.2 := fun q hq => List.map_inj_left.mp m q hq
  unfold mvl
  rw [List.map_eq_nil_iff, List.filter_eq_nil_iff]
  constructor
  · intro h q hq
    have := h q.1 (by rw [← P.kk]; exact List.mem_map.mpr ⟨q, hq, rfl⟩)
    rw [m2 q hq] at this
    simp [this]
  · intro h x hx
    rw [← P.kk] at hx
    obtain ⟨q, hq, rfl⟩ := List.mem_map.mp hx
    have := h q hq
    rw [m2 q hq]
    simpa using Eq.symm (by simpa using this)
end
end Iv

set_option maxRecDepth 100000
namespace Iv
open PySem
/-! ### exchange, compose -/
section
variable {Γ : Nat → Option FDef} {k : Nat} {S : Store} {ks : List Str} {p : Pm} {a : Str}
theorem kd_mkp (ks : List Str) (g : Str → Str) : (kd (mkp ks g)).map (·.1) = ks.map Sum.inr := by
  unfold kd mkp
  rw [List.map_map, List.map_map]
  rfl
theorem keys_mkp (ks : List Str) (g : Str → Str) : (mkp ks g).map (·.1) = ks := by
  unfold mkp
  rw [List.map_map]
  exact List.map_id _
theorem aspairs_ok (h : Γ i_as_pairs = some f_as_pairs) {n : Nat} {q : Pm} (hn : S[n]? = some (.dct false (kd q))) (nd : (q.map (·.1)).Nodup) (so : (q.map (·.1)).Pairwise fun a b => leStr a b = true) (hl : q.length < 60) (hcl : n < S.length) : callN Γ (k + 1) i_as_pairs [.loc n] S = .ok (.tup (pd (mkp (q.map (·.1)) (im q)))) S := by
  have e : sortS (q.map (·.1)) = q.map (·.1) := sorted_uniq (sortS_perm _) (sortS_sorted _) so
  have so1 : bfD .sorted [.loc n] S = .ok (.loc S.length) (S ++ [.lst (sd (q.map (·.1)))]) := by
    show (match listOf S (.loc n) with
      | some xs => match sortD S xs with
        | some ys => newC (.lst ys) S
        | none => .bad
      | none => sortK (.loc n) S) = _
    have l1 : listOf S (.loc n) = none := by simp [listOf, lstAt, hn]
    rw [l1]
    show sortK (.loc n) S = _
    simp only [sortK, hn, strKeys_kd, List.length_map]
    rw [if_pos (by omega), e]
    rfl
  generalize hks : q.map (·.1) = ks at *
  have kl : ks.length = q.length := by rw [← hks, List.length_map]
  have g1 : (S ++ [Cell.lst (sd ks)])[S.length]? = some (.lst (sd ks)) := by rw [get_app0]; rfl
  have ei : evI (callN Γ k) (.val (.bf .sorted (.cons (.var 0) (.nil)))) [some (.loc n), none] S = .ok (sd ks, .lst S.length (sd ks)) (S ++ [.lst (sd ks)]) := by
    simp [so1, walkOf, seqOf, lstAt, srcOf]
  have lc := lc_ok (F := callN Γ k) (e := .tup (.cons (.var 1) (.cons (.ix (.var 0) (.var 1)) (.nil)))) (t := .nm 1) (c := .none) (ρ := [some (.loc n), none]) (fun x => match x with | .str y => some (.tup [.str y, .str (im q y)]) | _ => none) ei (by rw [sd_len]; omega) (fun acc => decide_eq_true (by unfold lstAt; rw [get_old g1])) (fun x hx acc => ⟨[], by
      obtain ⟨y, hy, rfl⟩ := List.mem_map.mp hx
      have G : (S ++ [Cell.lst (sd ks)] ++ [.lst acc])[n]? = some (.dct false (kd q)) := get_old (get_old hn)
      have ky : y ∈ q.map (·.1) := by rw [hks]; exact hy
      generalize S ++ [Cell.lst (sd ks)] ++ [.lst acc] = U at *
      simp [turnC, bindT, slotsT, wipeE, evC, G, look_kd ky]⟩) (fun x hx d hd => by
      obtain ⟨y, _, rfl⟩ := List.mem_map.mp hx
      cases hd
      rfl)
  have e2 : ∀ l : List Str, (sd l).filterMap (fun x => match x with | .str y => some (D.tup [.str y, .str (im q y)]) | _ => none) = pd (mkp l (im q)) := fun l => by
    induction l with
    | nil => rfl
    | cons y l ih =>
      show List.filterMap _ (.str y :: sd l) = _
      rw [List.filterMap_cons, ih]
      rfl
  rw [e2] at lc
  have tl := tup_loc (S := S ++ [Cell.lst (sd ks)] ++ [.lst (pd (mkp ks (im q)))]) (n := (S ++ [Cell.lst (sd ks)]).length) (xs := pd (mkp ks (im q))) (by rw [get_app0]; rfl)
  have gd : gc S (.tup (pd (mkp ks (im q)))) (S ++ [Cell.lst (sd ks)] ++ [.lst (pd (mkp ks (im q)))]) = .ok (.tup (pd (mkp ks (im q)))) S := by
    rw [List.append_assoc]
    exact gc_drop (by rw [cl_tup]; exact pd_cls _ _)
  rw [callN_eq h rfl]
  simp only [f_as_pairs]
  generalize S ++ [Cell.lst (sd ks)] ++ [.lst (pd (mkp ks (im q)))] = V at *
  generalize S ++ [Cell.lst (sd ks)] = U at *
  simp [lc, tl, gd]
theorem compose_ok (h : Γ i_compose = some f_compose) {g : Str → Str} (P : Prm ks p) (hl : ks.length < 100) (gi : ∀ x ∈ ks, g x ∈ ks) : callN Γ (k + 1) i_compose [.tup (pd (mkp ks g)), .tup (pd p)] S = .ok (.tup (pd (mkp ks fun x => im p (g x)))) S := by
  have nk : (p.map (·.1)).Nodup := by rw [P.kk]; exact P.nd
  have d2 := dict_pd nk (S := S)
  have lc := lcP (F := callN Γ k) (ρ := [some (.tup (pd (mkp ks g))), some (.tup (pd p)), some (.loc S.length), none, none]) (S := S ++ [.dct false (kd p)]) (i := 3) (j := 4) (rv := 0) (e := .tup (.cons (.var 3) (.cons (.ix (.var 2) (.var 4)) (.nil)))) (c := .none) (p := mkp ks g) (fun _ => true) (fun q => .tup [.str q.1, .str (im p q.2)]) rfl (show 3 < 5 by decide) (show 4 < 5 by decide) (by unfold mkp; rw [List.length_map]; omega) (fun q hq acc => by
      obtain ⟨x, hx, rfl⟩ := List.mem_map.mp hq
      have G : (S ++ [Cell.dct false (kd p)] ++ [.lst acc])[S.length]? = some (.dct false (kd p)) := by rw [List.append_assoc, get_app0]; rfl
      have kx : g x ∈ p.map (·.1) := by rw [P.kk]; exact gi x hx
      generalize S ++ [Cell.dct false (kd p)] ++ [.lst acc] = U at *
      exact ⟨rfl, fun _ => by simp [wipeE, G, look_kd kx]⟩) (fun q _ => rfl)
  rw [filt_all] at lc
  have e : (mkp ks g).map (fun q => D.tup [.str q.1, .str (im p q.2)]) = pd (mkp ks fun x => im p (g x)) := by
    rw [pd_mkp]
    unfold mkp
    rw [List.map_map]
    rfl
  rw [e] at lc
  have tl := tup_loc (S := S ++ [Cell.dct false (kd p)] ++ [.lst (pd (mkp ks fun x => im p (g x)))]) (n := (S ++ [Cell.dct false (kd p)]).length) (xs := pd (mkp ks fun x => im p (g x))) (by rw [get_app0]; rfl)
  have gd : gc S (.tup (pd (mkp ks fun x => im p (g x)))) (S ++ [Cell.dct false (kd p)] ++ [.lst (pd (mkp ks fun x => im p (g x)))]) = .ok (.tup (pd (mkp ks fun x => im p (g x)))) S := by
    rw [List.append_assoc]
    exact gc_drop (by rw [cl_tup]; exact pd_cls _ _)
  rw [callN_eq h rfl]
  simp only [f_compose]
  generalize S ++ [Cell.dct false (kd p)] ++ [.lst (pd (mkp ks fun x => im p (g x)))] = V at *
  generalize S ++ [Cell.dct false (kd p)] = U at *
  simp [d2, lc, tl, gd]
/-- the dict of labels as they are -/
theorem dcid_ok {F : Fns} {nl : Nat} (h : S[nl]? = some (.lst (sd ks))) (nd : ks.Nodup) (hl : ks.length < 100) : evE F (.dc (.var 3) (.var 3) (.nm 3) (.val (.var 0))) [some (.loc nl), some (.str a), none, none] S = .ok (.loc S.length) (S ++ [.dct false (kd (mkp ks id))]) := by
  have ei : evI F (.val (.var 0)) [some (.loc nl), some (.str a), none, none] S = .ok (sd ks, .lst nl (sd ks)) S := by
    simp [walkOf, seqOf, lstAt, h, srcOf]
  have turns : ∀ (l m : List Str), m ++ l = ks → loopO (.lst nl (sd ks)) (turnD F (.var 3) (.var 3) (.nm 3) [some (.loc nl), some (.str a), none, none] S.length) (sd l) (S ++ [.dct false (kd (mkp m id))]) = .ok () (S ++ [.dct false (kd (mkp ks id))]) := fun l => by
    induction l with
    | nil =>
      intro m e
      rw [List.append_nil] at e
      subst e
      show (if (Src.lst nl (sd m)).ok (S ++ [.dct false (kd (mkp m id))]) = true then Out.ok () _ else .bad) = _
      have okk : (Src.lst nl (sd m)).ok (S ++ [.dct false (kd (mkp m id))]) = true := decide_eq_true (by unfold lstAt; rw [get_old h])
      rw [if_pos okk]
    | cons x l ih =>
      intro m e
      have nx : x ∉ m := fun z => by
        rw [← e] at nd
        exact (List.nodup_append.mp nd).2.2 x z x List.mem_cons_self rfl
      have nm : m.Nodup := by
        rw [← e] at nd
        exact (List.nodup_append.mp nd).1
      have ml : m.length < 100 := by
        have := congrArg List.length e
        rw [List.length_append] at this
        omega
      have g : (S ++ [Cell.dct false (kd (mkp m id))])[S.length]? = some (.dct false (kd (mkp m id))) := by rw [get_app0]; rfl
      have pk : putA (Sum.inr x : Key) (.str x) (kd (mkp m id)) = kd (mkp (m ++ [x]) id) := by
        rw [kd_put, putA_new (by rw [keys_mkp]; exact nx)]
        unfold mkp
        simp
      have tn : turnD F (.var 3) (.var 3) (.nm 3) [some (.loc nl), some (.str a), none, none] S.length (.str x) (S ++ [.dct false (kd (mkp m id))]) = .ok () (S ++ [.dct false (kd (mkp (m ++ [x]) id))]) := by
        show ((Out.ok (D.str x) (S ++ [Cell.dct false (kd (mkp m id))])).bind fun y S3 => (Out.ok (D.str x) S3).bind fun z S4 => (gc (S ++ [Cell.dct false (kd (mkp m id))]) z S4).bind fun z' S5 => putO S.length y z' S5) = _
        rw [bind_ok, bind_ok, gc_same rfl, bind_ok]
        unfold putO
        rw [g]
        show (if (kd (mkp m id)).length < sizeLine ∧ ((kd (mkp m id)).map (·.1)).Nodup then Out.ok () ((S ++ [Cell.dct false (kd (mkp m id))]).set S.length (.dct false (putA (Sum.inr x : Key) (.str x) (kd (mkp m id))))) else .bad) = _
        rw [if_pos ⟨by rw [kd_len]; unfold mkp; rw [List.length_map, sizeLine_eq]; omega, by rw [kd_mkp]; exact List.Pairwise.map _ (fun a b hab e => hab (Sum.inr.inj e)) nm⟩, pk, set_new0]
        rfl
      show (if (Src.lst nl (sd ks)).ok (S ++ [.dct false (kd (mkp m id))]) = true then (match turnD F (.var 3) (.var 3) (.nm 3) [some (.loc nl), some (.str a), none, none] S.length (.str x) (S ++ [.dct false (kd (mkp m id))]) with
        | .ok _ S' => loopO (.lst nl (sd ks)) (turnD F (.var 3) (.var 3) (.nm 3) [some (.loc nl), some (.str a), none, none] S.length) (sd l) S'
        | _ => .bad) else .bad) = _
      have okk : (Src.lst nl (sd ks)).ok (S ++ [.dct false (kd (mkp m id))]) = true := decide_eq_true (by unfold lstAt; rw [get_old h])
      rw [if_pos okk, tn]
      exact ih (m ++ [x]) (by rw [← e]; simp)
  have t := turns ks [] rfl
  show ((evI F (.val (.var 0)) [some (.loc nl), some (.str a), none, none] S).bind fun p S1 => (loopO p.2 (turnD F (.var 3) (.var 3) (.nm 3) [some (.loc nl), some (.str a), none, none] S1.length) p.1 (S1 ++ [.dct false []])).bind fun _ S5 => Out.ok (D.loc S1.length) S5) = _
  rw [ei, bind_ok]
  show (loopO (.lst nl (sd ks)) (turnD F (.var 3) (.var 3) (.nm 3) [some (.loc nl), some (.str a), none, none] S.length) (sd ks) (S ++ [.dct false (kd (mkp [] id))])).bind (fun _ S5 => Out.ok (D.loc S.length) S5) = _
  rw [t]
  rfl
theorem exchange_ok (h : Γ i_exchange = some f_exchange) (h2 : Γ i_as_pairs = some f_as_pairs) {nl : Nat} (hn : S[nl]? = some (.lst (sd ks))) (nd : ks.Nodup) (so : ks.Pairwise fun a b => leStr a b = true) (hl : ks.length < 60) (hg : ("" : Str) ∈ ks) (ha : a ∈ ks) (hne : a ≠ "") : callN Γ (k + 2) i_exchange [.loc nl, .str a] S = .ok (.tup (pd (mkp ks (sw a)))) S := by
  have d1 := dcid_ok (F := callN Γ (k + 1)) (S := S) (a := a) hn nd (by omega)
  have k0 := keys_mkp ks id
  have g0 : (S ++ [Cell.dct false (kd (mkp ks id))])[S.length]? = some (.dct false (kd (mkp ks id))) := by rw [get_app0]; rfl
  have k1 : (putA ("" : Str) a (mkp ks id)).map (·.1) = ks := by rw [putA_keys (by rw [k0]; exact hg), k0]
  have k2 : (putA a ("" : Str) (putA ("" : Str) a (mkp ks id))).map (·.1) = ks := by rw [putA_keys (by rw [k1]; exact ha), k1]
  have z1 : (S ++ [Cell.dct false (kd (mkp ks id))]).set S.length (.dct false (kd (putA ("" : Str) a (mkp ks id)))) = S ++ [.dct false (kd (putA ("" : Str) a (mkp ks id)))] := by rw [set_new0]; rfl
  have z2 : (S ++ [Cell.dct false (kd (putA ("" : Str) a (mkp ks id)))]).set S.length (.dct false (kd (putA a ("" : Str) (putA ("" : Str) a (mkp ks id))))) = S ++ [.dct false (kd (putA a ("" : Str) (putA ("" : Str) a (mkp ks id))))] := by rw [set_new0]; rfl
  have g1 : (S ++ [Cell.dct false (kd (putA ("" : Str) a (mkp ks id)))])[S.length]? = some (.dct false (kd (putA ("" : Str) a (mkp ks id)))) := by rw [get_app0]; rfl
  have g2 : (S ++ [Cell.dct false (kd (putA a ("" : Str) (putA ("" : Str) a (mkp ks id))))])[S.length]? = some (.dct false (kd (putA a ("" : Str) (putA ("" : Str) a (mkp ks id))))) := by rw [get_app0]; rfl
  have l0 : (kd (mkp ks id)).length < 16777216 := by rw [kd_len, key_len k0]; omega
  have l1 : (kd (putA ("" : Str) a (mkp ks id))).length < 16777216 := by rw [kd_len, key_len k1]; omega
  have ap := aspairs_ok (k := k) h2 g2 (by rw [k2]; exact nd) (by rw [k2]; exact so) (by rw [key_len k2]; omega) (by simp)
  have em : mkp ((putA a ("" : Str) (putA ("" : Str) a (mkp ks id))).map (·.1)) (im (putA a ("" : Str) (putA ("" : Str) a (mkp ks id)))) = mkp ks (sw a) := by
    rw [k2]
    unfold mkp
    refine List.map_congr_left fun x hx => ?_
    have i0 : im (mkp ks id) x = x := im_map hx
    have : im (putA a ("" : Str) (putA ("" : Str) a (ks.map fun x => (x, id x)))) x = sw a x := by
      rw [im_put, im_put]
      unfold sw
      by_cases h1 : x = ""
      · rw [if_pos h1, if_pos h1, if_neg (fun e => hne (e.symm.trans h1))]
      · rw [if_neg h1, if_neg h1]
        by_cases h2 : x = a
        · rw [if_pos h2, if_pos h2]
        · rw [if_neg h2, if_neg h2]
          exact i0
    show (x, im (putA a ("" : Str) (putA ("" : Str) a (ks.map fun x => (x, id x)))) x) = _
    rw [this]
  rw [em] at ap
  have gd : gc S (.tup (pd (mkp ks (sw a)))) (S ++ [Cell.dct false (kd (putA a ("" : Str) (putA ("" : Str) a (mkp ks id))))]) = .ok (.tup (pd (mkp ks (sw a)))) S := gc_drop (by rw [cl_tup]; exact pd_cls _ _)
  rw [callN_eq h rfl]
  simp only [f_exchange]
  generalize S ++ [Cell.dct false (kd (putA a ("" : Str) (putA ("" : Str) a (mkp ks id))))] = U2 at *
  generalize S ++ [Cell.dct false (kd (putA ("" : Str) a (mkp ks id)))] = U1 at *
  generalize S ++ [Cell.dct false (kd (mkp ks id))] = U0 at *
  simp [slotsTs.len, asgTs, d1, g0, l0, kd_put, z1, g1, l1, z2, ap, gd]
end
end Iv

set_option maxRecDepth 100000
namespace Iv
open PySem
/-! ### gap_word -/
theorem loopF_brk {src : Src} {f : D → Env → Store → OutS} {S S1 : Store} {ρ1 : Env} {P : Env → Prop} {x : D} {B : List D} (hs : src.ok S = true) : ∀ {A : List D} {ρ : Env}, P ρ → (∀ a ∈ A, ∀ ρ, P ρ → ∃ ρ', f a ρ S = .nx ρ' S ∧ P ρ') → (∀ ρ, P ρ → f x ρ S = .bk ρ1 S1) → loopF src f (A ++ x :: B) ρ S = .nx ρ1 S1
  | [], ρ, h, _, h2 => by
    show (if src.ok S = true then (match f x ρ S with
      | .nx ρ' S' => loopF src f B ρ' S'
      | .ct ρ' S' => loopF src f B ρ' S'
      | .bk ρ' S' => .nx ρ' S'
      | o => o) else .bad) = _
    rw [if_pos hs, h2 ρ h]
  | a :: A, ρ, h, h1, h2 => by
    obtain ⟨ρ', e, h'⟩ := h1 a List.mem_cons_self ρ h
    show (if src.ok S = true then (match f a ρ S with
      | .nx ρ' S' => loopF src f (A ++ x :: B) ρ' S'
      | .ct ρ' S' => loopF src f (A ++ x :: B) ρ' S'
      | .bk ρ' S' => .nx ρ' S'
      | o => o) else .bad) = _
    rw [if_pos hs, e]
    exact loopF_brk hs h' (fun a ha => h1 a (List.mem_cons_of_mem _ ha)) h2
def low (ks : List Str) (r : Pm) (a : Str) : Bool := decide (gapd (bef ks r a) < gapd r)
def gwd (ks : List Str) : Nat → Pm → List Str
  | 0, _ => []
  | n + 1, r => match (lbs ks).find? (low ks r) with
    | some a => a :: gwd ks n (bef ks r a)
    | none => []
theorem ks_head {ks : List Str} (nd : ks.Nodup) (so : ks.Pairwise fun a b => leStr a b = true) (hg : ("" : Str) ∈ ks) : ks = ("" : Str) :: lbs ks := by
  cases ks with
  | nil => cases hg
  | cons y l =>
    obtain ⟨n1, n2⟩ := List.nodup_cons.mp nd
    have y0 : y = "" := by
      rcases List.mem_cons.mp hg with h | h
      · exact h.symm
      · have h1 := (List.pairwise_cons.mp so).1 "" h
        have h2 : leStr "" y = true := decide_eq_true (List.nil_le _)
        exact leStr_anti h1 h2
    subst y0
    unfold lbs
    rw [List.filter_cons]
    have e : l.filter (fun x : Str => !decide (x = "")) = l := List.filter_eq_self.mpr fun x hx => by
      have : x ≠ "" := fun e => n1 (e ▸ hx)
      simp [this]
    rw [e]
    simp
section
variable {Γ : Nat → Option FDef} {S : Store} {ks : List Str} {p r : Pm}
structure GamW (Γ : Nat → Option FDef) : Prop where
  h0 : Γ i_cycles_of = some f_cycles_of
  h2 : Γ i_gap_distance = some f_gap_distance
  h3 : Γ i_as_pairs = some f_as_pairs
  h4 : Γ i_compose = some f_compose
  h5 : Γ i_exchange = some f_exchange
  h6 : Γ i_gap_word = some f_gap_word
structure Kok (ks : List Str) : Prop where
  nd : ks.Nodup
  so : ks.Pairwise fun a b => leStr a b = true
  gap : ("" : Str) ∈ ks
  few : ks.length < 60
abbrev wE (p r : Pm) (n1 n3 : Nat) (o4 o5 : Option D) : Env := [some (.tup (pd p)), some (.loc n1), some (.tup (pd r)), some (.loc n3), o4, o5, none]
abbrev wBody : ISs := (.cons (.asg (.nm 5) (.call i_compose (.cons (.call i_exchange (.cons (.var 1) (.cons (.var 4) (.nil)))) (.cons (.var 2) (.nil))))) (.cons (.ife (.cmp .Lt (.call i_gap_distance (.cons (.var 5) (.nil))) (.call i_gap_distance (.cons (.var 2) (.nil)))) (.cons (.expr (.bm .append (.var 3) (.cons (.var 4) (.nil)))) (.cons (.asg (.nm 2) (.var 5)) (.cons (.brk) (.nil)))) (.nil)) (.nil)))
theorem wturn (g : GamW Γ) (K : Kok ks) (Q : Prm ks r) {n1 n3 : Nat} {w : List Str} (h1 : S[n1]? = some (.lst (sd ks))) (h3 : S[n3]? = some (.lst (sd w))) (hw : w.length < 1000) {x : Str} (hx : x ∈ lbs ks) {o4 o5 : Option D} :
    (asgT (callN Γ 18) (.nm 4) (.str x) (wE p r n1 n3 o4 o5) S).bindS (fun ρ' S' => evSs (callN Γ 18) wBody ρ' S') = if low ks r x = true then .bk (wE p (bef ks r x) n1 n3 (some (.str x)) (some (.tup (pd (bef ks r x))))) (S.set n3 (.lst (sd (w ++ [x])))) else .nx (wE p r n1 n3 (some (.str x)) (some (.tup (pd (bef ks r x))))) S := by
  obtain ⟨x1, x2⟩ := lbs_in hx
  have few := K.few
  obtain ⟨B, _⟩ := bef_ok Q (by omega) K.gap x1 x2
  have c1 := exchange_ok (k := 16) (S := S) g.h5 g.h3 h1 K.nd K.so K.few K.gap x1 x2
  have c2 := compose_ok (k := 17) (S := S) (g := sw x) g.h4 Q (by omega) (sw_in K.gap x1)
  have c2 : callN Γ 18 i_compose [.tup (pd (mkp ks (sw x))), .tup (pd r)] S = .ok (.tup (pd (bef ks r x))) S := c2
  have c3 := gap_ok (k := 16) g.h2 g.h0 B.ok S
  have c4 := gap_ok (k := 16) g.h2 g.h0 Q.ok S
  have ak := appK_ok h3
  have ap := appD_ok (d := .str x) h3 (by rw [sd_len, sizeLine_eq]; omega)
  have e1 : sd w ++ [D.str x] = sd (w ++ [x]) := by simp [sd]
  rw [e1] at ap
  have dl : decide (((gapd (bef ks r x) : Nat) : Int) < (gapd r : Nat)) = low ks r x := decide_eq_decide.mpr (by omega)
  have q0 : asgT (callN Γ 18) (.nm 4) (.str x) (wE p r n1 n3 o4 o5) S = .ok (wE p r n1 n3 (some (.str x)) o5) S := rfl
  have s1 : evS (callN Γ 18) (.asg (.nm 5) (.call i_compose (.cons (.call i_exchange (.cons (.var 1) (.cons (.var 4) (.nil)))) (.cons (.var 2) (.nil))))) (wE p r n1 n3 (some (.str x)) o5) S = .nx (wE p r n1 n3 (some (.str x)) (some (.tup (pd (bef ks r x))))) S := by
    generalize callN Γ 18 = F at *
    simp [c1, c2]
  rw [q0, bindS_ok, evss_nx s1]
  have lt : cmpD .Lt (.int (gapd (bef ks r x) : Nat)) (.int (gapd r : Nat)) S = some (low ks r x) := by rw [cmp_lt, dl]
  generalize S.set n3 (.lst (sd (w ++ [x]))) = U at *
  generalize callN Γ 18 = F at *
  have hb : ∀ ρ S, evS F .brk ρ S = .bk ρ S := fun _ _ => rfl
  have hss : ∀ r ρ S, evSs F (.cons .brk r) ρ S = .bk ρ S := fun _ _ _ => rfl
  cases hl : low ks r x with
  | true =>
    rw [hl] at lt
    simp [-cmp_lt, c3, c4, lt, tru, ak, ap, hb, hss]
  | false =>
    rw [hl] at lt
    simp [-cmp_lt, c3, c4, lt, tru]
abbrev whC (F : Fns) : Env → Store → Out Bool := fun ρ S => (evE F (.cmp .Gt (.call i_gap_distance (.cons (.var 2) (.nil))) (.con (.int 0))) ρ S).bind truO
abbrev whB (F : Fns) : Env → Store → OutS := evSs F (.cons (.for_ (.nm 4) (.val (.slc (.var 1) (.some (.con (.int 1))) (.none))) wBody) (.nil))
theorem while_w (g : GamW Γ) (K : Kok ks) : ∀ (n fuel : Nat) (r : Pm) (w : List Str) (G : Store) (o4 o5 : Option D), gapd r = n → Prm ks r → n < fuel → w.length + n < 200 →
    ∃ r' G' o4' o5', Prm ks r' ∧ gapd r' = 0 ∧ loopW (whC (callN Γ 18)) (whB (callN Γ 18)) fuel (wE p r S.length (S.length + 1) o4 o5) (S ++ ([Cell.lst (sd ks), .lst (sd w)] ++ G)) = .nx (wE p r' S.length (S.length + 1) o4' o5') (S ++ ([Cell.lst (sd ks), .lst (sd (w ++ gwd ks n r))] ++ G')) := by
  intro n
  induction n with
  | zero =>
    intro fuel r w G o4 o5 hn Q hf hw
    obtain ⟨fuel, rfl⟩ : ∃ f, fuel = f + 1 := ⟨fuel - 1, by omega⟩
    refine ⟨r, G, o4, o5, Q, hn, ?_⟩
    have e0 : gwd ks 0 r = [] := rfl
    rw [e0, List.append_nil]
    generalize S ++ ([Cell.lst (sd ks), .lst (sd w)] ++ G) = T
    have c4 := gap_ok (k := 16) g.h2 g.h0 Q.ok T
    have hc : whC (callN Γ 18) (wE p r S.length (S.length + 1) o4 o5) T = .ok false T := by
      generalize callN Γ 18 = F at *
      simp [whC, c4, hn, tru]
    unfold loopW
    rw [hc]
    rfl
  | succ n ih =>
    intro fuel r w G o4 o5 hn Q hf hw
    obtain ⟨fuel, rfl⟩ : ∃ f, fuel = f + 1 := ⟨fuel - 1, by omega⟩
    have few := K.few
    have : ∃ x ∈ ks, im r x ≠ x := by
      apply Classical.byContradiction
      intro nn
      have z := (gap_zero Q (by omega) K.gap).mpr fun x hx => Classical.byContradiction fun w => nn ⟨x, hx, w⟩
      omega
    obtain ⟨b, b1, b2, b3⟩ := gap_down Q (by omega) K.gap this
    obtain ⟨a, ha⟩ : ∃ a, (lbs ks).find? (low ks r) = some a := by
      cases h : (lbs ks).find? (low ks r) with
      | some a => exact ⟨a, rfl⟩
      | none =>
        have := List.find?_eq_none.mp h b (in_lbs b1 b2)
        exact absurd (decide_eq_true (by omega)) this
    have al : low ks r a = true := List.find?_some ha
    obtain ⟨_, A, B, spl, hA⟩ := List.find?_eq_some_iff_append.mp ha
    have am : a ∈ lbs ks := by rw [spl]; simp
    obtain ⟨a1, a2⟩ := lbs_in am
    obtain ⟨Bq, bs, _⟩ := bef_ok Q (by omega) K.gap a1 a2
    have ad : gapd (bef ks r a) = n := by
      have := of_decide_eq_true al
      omega
    have eg : gwd ks (n + 1) r = a :: gwd ks n (bef ks r a) := by
      show (match (lbs ks).find? (low ks r) with | some a => a :: gwd ks n (bef ks r a) | none => []) = _
      rw [ha]
    have g0 : ∀ w G, (S ++ ([Cell.lst (sd ks), .lst (sd w)] ++ G))[S.length]? = some (.lst (sd ks)) := fun w G => by rw [get_app0]; rfl
    have g1 : ∀ w G, (S ++ ([Cell.lst (sd ks), .lst (sd w)] ++ G))[S.length + 1]? = some (.lst (sd w)) := fun w G => by rw [get_app]; rfl
    have tlk : (sd ks).drop 1 = sd (lbs ks) := by
      have := ks_head K.nd K.so K.gap
      conv => lhs; rw [this]
      rfl
    have sl := slc_loc (lo := some ((1 : Nat) : Int)) (hi := none) (g0 w G)
    rw [cut_from, tlk] at sl
    have eU : S ++ ([Cell.lst (sd ks), .lst (sd w)] ++ G) ++ [Cell.lst (sd (lbs ks))] = S ++ ([Cell.lst (sd ks), .lst (sd w)] ++ (G ++ [Cell.lst (sd (lbs ks))])) := by simp
    have gl : (S ++ ([Cell.lst (sd ks), .lst (sd w)] ++ (G ++ [Cell.lst (sd (lbs ks))])))[(S ++ ([Cell.lst (sd ks), .lst (sd w)] ++ G)).length]? = some (.lst (sd (lbs ks))) := by rw [← eU, get_app0]; rfl
    have stz : (S ++ ([Cell.lst (sd ks), .lst (sd w)] ++ (G ++ [Cell.lst (sd (lbs ks))]))).set (S.length + 1) (.lst (sd (w ++ [a]))) = S ++ ([Cell.lst (sd ks), .lst (sd (w ++ [a]))] ++ (G ++ [Cell.lst (sd (lbs ks))])) := by rw [set_new]; rfl
    have ei : evI (callN Γ 18) (.val (.slc (.var 1) (.some (.con (.int 1))) (.none))) (wE p r S.length (S.length + 1) o4 o5) (S ++ ([Cell.lst (sd ks), .lst (sd w)] ++ G)) = .ok (sd (lbs ks), .lst (S ++ ([Cell.lst (sd ks), .lst (sd w)] ++ G)).length (sd (lbs ks))) (S ++ ([Cell.lst (sd ks), .lst (sd w)] ++ (G ++ [Cell.lst (sd (lbs ks))]))) := by
      rw [eU] at sl
      have sl : slD (.loc S.length) (some 1) none (S ++ ([Cell.lst (sd ks), .lst (sd w)] ++ G)) = _ := sl
      generalize S ++ ([Cell.lst (sd ks), .lst (sd w)] ++ (G ++ [Cell.lst (sd (lbs ks))])) = U at *
      generalize S ++ ([Cell.lst (sd ks), .lst (sd w)] ++ G) = T at *
      simp [sl, walkOf, seqOf, lstAt, gl, srcOf]
    have lb := loopF_brk (src := .lst (S ++ ([Cell.lst (sd ks), .lst (sd w)] ++ G)).length (sd (lbs ks))) (f := fun x ρ S => (asgT (callN Γ 18) (.nm 4) x ρ S).bindS (fun ρ' S' => evSs (callN Γ 18) wBody ρ' S')) (S := S ++ ([Cell.lst (sd ks), .lst (sd w)] ++ (G ++ [Cell.lst (sd (lbs ks))])))
      (S1 := S ++ ([Cell.lst (sd ks), .lst (sd (w ++ [a]))] ++ (G ++ [Cell.lst (sd (lbs ks))]))) (ρ1 := wE p (bef ks r a) S.length (S.length + 1) (some (.str a)) (some (.tup (pd (bef ks r a))))) (P := fun ρ => ∃ o4 o5, ρ = wE p r S.length (S.length + 1) o4 o5) (x := .str a) (B := sd B) (decide_eq_true (by unfold lstAt; rw [gl])) (A := sd A) (ρ := wE p r S.length (S.length + 1) o4 o5) ⟨o4, o5, rfl⟩ (fun y hy ρ ⟨o4, o5, e⟩ => by
        subst e
        obtain ⟨x, hx, rfl⟩ := List.mem_map.mp hy
        have t := wturn (p := p) (o4 := o4) (o5 := o5) g K Q (g0 w (G ++ [Cell.lst (sd (lbs ks))])) (g1 w (G ++ [Cell.lst (sd (lbs ks))])) (by omega) (x := x) (by rw [spl]; simp [hx])
        have lx : low ks r x = false := by simpa using hA x hx
        rw [lx, if_neg Bool.false_ne_true] at t
        exact ⟨_, t, _, _, rfl⟩) (fun ρ ⟨o4, o5, e⟩ => by
        subst e
        have t := wturn (p := p) (o4 := o4) (o5 := o5) g K Q (g0 w (G ++ [Cell.lst (sd (lbs ks))])) (g1 w (G ++ [Cell.lst (sd (lbs ks))])) (by omega) am
        rw [al, if_pos rfl, stz] at t
        exact t)
    have sp2 : sd A ++ .str a :: sd B = sd (lbs ks) := by rw [spl]; simp [sd]
    rw [sp2] at lb
    obtain ⟨r', G', o4', o5', R1, R2, R3⟩ := ih fuel (bef ks r a) (w ++ [a]) (G ++ [Cell.lst (sd (lbs ks))]) (some (.str a)) (some (.tup (pd (bef ks r a)))) ad Bq (by omega) (by rw [List.length_append, List.length_singleton]; omega)
    refine ⟨r', G', o4', o5', R1, R2, ?_⟩
    have c4 := gap_ok (k := 16) g.h2 g.h0 Q.ok (S ++ ([Cell.lst (sd ks), .lst (sd w)] ++ G))
    have hc : whC (callN Γ 18) (wE p r S.length (S.length + 1) o4 o5) (S ++ ([Cell.lst (sd ks), .lst (sd w)] ++ G)) = .ok true (S ++ ([Cell.lst (sd ks), .lst (sd w)] ++ G)) := by
      generalize S ++ ([Cell.lst (sd ks), .lst (sd w)] ++ G) = T at *
      generalize callN Γ 18 = F at *
      have pos : (0 : Int) < (gapd r : Nat) := by omega
      have pos' : 0 < gapd r := by omega
      simp [whC, c4, pos, pos', tru]
    have hb : whB (callN Γ 18) (wE p r S.length (S.length + 1) o4 o5) (S ++ ([Cell.lst (sd ks), .lst (sd w)] ++ G)) = .nx (wE p (bef ks r a) S.length (S.length + 1) (some (.str a)) (some (.tup (pd (bef ks r a))))) (S ++ ([Cell.lst (sd ks), .lst (sd (w ++ [a]))] ++ (G ++ [Cell.lst (sd (lbs ks))]))) := by
      have e1 : evS (callN Γ 18) (.for_ (.nm 4) (.val (.slc (.var 1) (.some (.con (.int 1))) (.none))) wBody) (wE p r S.length (S.length + 1) o4 o5) (S ++ ([Cell.lst (sd ks), .lst (sd w)] ++ G)) = .nx (wE p (bef ks r a) S.length (S.length + 1) (some (.str a)) (some (.tup (pd (bef ks r a))))) (S ++ ([Cell.lst (sd ks), .lst (sd (w ++ [a]))] ++ (G ++ [Cell.lst (sd (lbs ks))]))) := by
        rw [st_for', ei]
        exact lb
      show evSs _ _ _ _ = _
      rw [evss_nx e1]
      rfl
    unfold loopW
    rw [hc, bindS_ok, if_pos rfl, hb]
    show loopW (whC (callN Γ 18)) (whB (callN Γ 18)) fuel _ _ = _
    rw [R3, eg]
    simp
theorem word_ok (g : GamW Γ) (K : Kok ks) (P : Prm ks p) (hd : gapd p < 150) : callN Γ 19 i_gap_word [.tup (pd p)] S = .ok (.tup (sd (gwd ks (gapd p) p))) S := by
  have pl := key_len P.kk
  have few := K.few
  rw [callN_eq (k := 18) g.h6 rfl]
  have lc := lcP (F := callN Γ 18) (ρ := [some (.tup (pd p)), none, none, none, none, none, none]) (S := S) (i := 4) (j := 6) (rv := 0) (e := .var 4) (c := .none) (p := p) (fun _ => true) (fun q => .str q.1) rfl (show 4 < 7 by decide) (show 6 < 7 by decide) (by omega) (fun q hq acc => by
      generalize S ++ [Cell.lst acc] = U
      exact ⟨rfl, fun _ => by simp [wipeE]⟩) (fun q _ => rfl)
  rw [filt_all] at lc
  have e : p.map (fun q => D.str q.1) = sd ks := by unfold sd; rw [← P.kk, List.map_map]; rfl
  rw [e] at lc
  obtain ⟨r', G', o4, o5, _, _, wl⟩ := while_w (S := S) (p := p) g K (gapd p) fuelW p [] [] none none rfl P (fw _ (by omega)) (by simp only [List.length_nil]; omega)
  rw [List.nil_append] at wl
  have e1 : S ++ [Cell.lst (sd ks)] ++ [.lst []] = S ++ ([Cell.lst (sd ks), .lst (sd [])] ++ []) := by simp [sd]
  have g3 : (S ++ ([Cell.lst (sd ks), .lst (sd (gwd ks (gapd p) p))] ++ G'))[S.length + 1]? = some (.lst (sd (gwd ks (gapd p) p))) := by rw [get_app]; rfl
  have gd : gc S (.tup (sd (gwd ks (gapd p) p))) (S ++ ([Cell.lst (sd ks), .lst (sd (gwd ks (gapd p) p))] ++ G')) = .ok (.tup (sd (gwd ks (gapd p) p))) S := gc_drop (by rw [cl_tup]; exact cls_sd _ _)
  have l1 : (S ++ [Cell.lst (sd ks)]).length = S.length + 1 := by simp
  show gcO S (bodyO (evSs (callN Γ 18) f_gap_word.body [some (.tup (pd p)), none, none, none, none, none, none] S)) = _
  have bd : f_gap_word.body = .cons (.asg (.nm 1) (.lc (.var 4) (.tup (.cons (.nm 4) (.cons (.nm 6) (.nil)))) (.val (.var 0)) (.none))) (.cons (.asg (.nm 2) (.var 0)) (.cons (.asg (.nm 3) (.lst (.nil))) (.cons (.whl (.cmp .Gt (.call i_gap_distance (.cons (.var 2) (.nil))) (.con (.int 0))) (.cons (.for_ (.nm 4) (.val (.slc (.var 1) (.some (.con (.int 1))) (.none))) wBody) (.nil))) (.cons (.ret (.some (.bf .tuple (.cons (.var 3) (.nil))))) (.nil))))) := rfl
  have s1 : evS (callN Γ 18) (.asg (.nm 1) (.lc (.var 4) (.tup (.cons (.nm 4) (.cons (.nm 6) (.nil)))) (.val (.var 0)) (.none))) [some (.tup (pd p)), none, none, none, none, none, none] S = .nx [some (.tup (pd p)), some (.loc S.length), none, none, none, none, none] (S ++ [.lst (sd ks)]) := by
    generalize S ++ [Cell.lst (sd ks)] = U at *
    simp [lc]
  have s2 : evS (callN Γ 18) (.asg (.nm 2) (.var 0)) [some (.tup (pd p)), some (.loc S.length), none, none, none, none, none] (S ++ [.lst (sd ks)]) = .nx [some (.tup (pd p)), some (.loc S.length), some (.tup (pd p)), none, none, none, none] (S ++ [.lst (sd ks)]) := rfl
  have s3 : evS (callN Γ 18) (.asg (.nm 3) (.lst (.nil))) [some (.tup (pd p)), some (.loc S.length), some (.tup (pd p)), none, none, none, none] (S ++ [.lst (sd ks)]) = .nx (wE p p S.length (S.length + 1) none none) (S ++ ([Cell.lst (sd ks), .lst (sd [])] ++ [])) := by
    rw [← e1]
    generalize hU : S ++ [Cell.lst (sd ks)] = U at *
    simp [l1]
  have s4 : evS (callN Γ 18) (.whl (.cmp .Gt (.call i_gap_distance (.cons (.var 2) (.nil))) (.con (.int 0))) (.cons (.for_ (.nm 4) (.val (.slc (.var 1) (.some (.con (.int 1))) (.none))) wBody) (.nil))) (wE p p S.length (S.length + 1) none none) (S ++ ([Cell.lst (sd ks), .lst (sd [])] ++ [])) = _ := wl
  rw [bd, evss_nx s1, evss_nx s2, evss_nx s3, evss_nx s4]
  generalize S ++ ([Cell.lst (sd ks), .lst (sd (gwd ks (gapd p) p))] ++ G') = V at *
  simp [tup_loc g3, gd]
end
end Iv

set_option maxRecDepth 100000
namespace Iv
open PySem
/-! ### the law -/
abbrev zz1 : IS := .asg (.nm 2) (.call i__law_source (.cons (.var 0) (.cons (.var 1) (.nil))))
abbrev zz2 : IS := .asg (.nm 3) (.call i__law_permutation (.cons (.var 2) (.cons (.con (.int 12)) (.nil))))
abbrev zz3 : IS := .asg (.nm 4) (.call i_gap_word (.cons (.var 3) (.nil)))
abbrev zz4 : IS := .asg (.nm 5) (.lc (.var 7) (.tup (.cons (.nm 7) (.cons (.nm 10) (.nil)))) (.val (.var 3)) (.some (.cmp .NotEq (.var 7) (.con (.str "")))))
abbrev zz5 : IS := .ife (.or (.not (.isi true (.var 4))) (.or (.cmp .NotEq (.bf .len (.cons (.var 4) (.nil))) (.call i__law_distance (.cons (.var 3) (.nil)))) (.one (.cmp .NotEq (.call i_gap_word (.cons (.var 3) (.nil))) (.var 4))))) (.cons (.ret (.some (.con (.bl false)))) (.nil)) (.nil)
abbrev zz6 : IS := .asg (.nm 6) (.var 3)
abbrev zz7 : IS := .for_ (.nm 7) (.val (.var 4)) (.cons (.asg (.nm 8) (.bin .Sub (.call i__law_distance (.cons (.var 6) (.nil))) (.con (.int 1)))) (.cons (.ife (.or (.cmp .NotIn (.var 7) (.var 5)) (.one (.cmp .NotEq (.call i__law_distance (.cons (.call i__law_without_2 (.cons (.var 6) (.cons (.var 7) (.nil)))) (.nil))) (.var 8)))) (.cons (.ret (.some (.con (.bl false)))) (.nil)) (.nil)) (.cons (.for_ (.nm 9) (.val (.var 5)) (.cons (.ife (.and (.cmp .Lt (.var 9) (.var 7)) (.one (.cmp .Eq (.call i__law_distance (.cons (.call i__law_without_2 (.cons (.var 6) (.cons (.var 9) (.nil)))) (.nil))) (.var 8)))) (.cons (.ret (.some (.con (.bl false)))) (.nil)) (.nil)) (.nil))) (.cons (.asg (.nm 6) (.call i__law_without_2 (.cons (.var 6) (.cons (.var 7) (.nil))))) (.nil)))))
abbrev zz8 : IS := .ife (.cmp .NotEq (.lc (.var 7) (.tup (.cons (.nm 7) (.cons (.nm 10) (.nil)))) (.val (.var 6)) (.some (.cmp .NotEq (.var 7) (.var 10)))) (.lst (.nil))) (.cons (.ret (.some (.con (.bl false)))) (.nil)) (.nil)
abbrev zzB : ISs := .cons zz1 (.cons zz2 (.cons zz3 (.cons zz4 (.cons zz5 (.cons zz6 (.cons zz7 (.cons zz8 (.nil))))))))
abbrev zw : ISs := .cons (.asg (.nm 8) (.bin .Sub (.call i__law_distance (.cons (.var 6) (.nil))) (.con (.int 1)))) (.cons (.ife (.or (.cmp .NotIn (.var 7) (.var 5)) (.one (.cmp .NotEq (.call i__law_distance (.cons (.call i__law_without_2 (.cons (.var 6) (.cons (.var 7) (.nil)))) (.nil))) (.var 8)))) (.cons (.ret (.some (.con (.bl false)))) (.nil)) (.nil)) (.cons (.for_ (.nm 9) (.val (.var 5)) (.cons (.ife (.and (.cmp .Lt (.var 9) (.var 7)) (.one (.cmp .Eq (.call i__law_distance (.cons (.call i__law_without_2 (.cons (.var 6) (.cons (.var 9) (.nil)))) (.nil))) (.var 8)))) (.cons (.ret (.some (.con (.bl false)))) (.nil)) (.nil)) (.nil))) (.cons (.asg (.nm 6) (.call i__law_without_2 (.cons (.var 6) (.cons (.var 7) (.nil))))) (.nil))))
abbrev zw1 : IS := .asg (.nm 8) (.bin .Sub (.call i__law_distance (.cons (.var 6) (.nil))) (.con (.int 1)))
abbrev zw2 : IS := .ife (.or (.cmp .NotIn (.var 7) (.var 5)) (.one (.cmp .NotEq (.call i__law_distance (.cons (.call i__law_without_2 (.cons (.var 6) (.cons (.var 7) (.nil)))) (.nil))) (.var 8)))) (.cons (.ret (.some (.con (.bl false)))) (.nil)) (.nil)
abbrev zw3 : IS := .for_ (.nm 9) (.val (.var 5)) (.cons (.ife (.and (.cmp .Lt (.var 9) (.var 7)) (.one (.cmp .Eq (.call i__law_distance (.cons (.call i__law_without_2 (.cons (.var 6) (.cons (.var 9) (.nil)))) (.nil))) (.var 8)))) (.cons (.ret (.some (.con (.bl false)))) (.nil)) (.nil)) (.nil))
abbrev zw4 : IS := .asg (.nm 6) (.call i__law_without_2 (.cons (.var 6) (.cons (.var 7) (.nil))))
abbrev zu : ISs := .cons (.ife (.and (.cmp .Lt (.var 9) (.var 7)) (.one (.cmp .Eq (.call i__law_distance (.cons (.call i__law_without_2 (.cons (.var 6) (.cons (.var 9) (.nil)))) (.nil))) (.var 8)))) (.cons (.ret (.some (.con (.bl false)))) (.nil)) (.nil)) (.nil)
abbrev zzl1 : IS := .for_ (.nm 1) (.range (.cons (.bf .max2 (.cons (.con (.int 1)) (.cons (.bf .min2 (.cons (.con (.int 4)) (.cons (.bf .len (.cons (.var 0) (.nil))) (.nil)))) (.nil)))) (.nil))) (.cons (.asg (.nm 2) (.call i__law_source (.cons (.var 0) (.cons (.var 1) (.nil))))) (.cons (.asg (.nm 3) (.call i__law_permutation (.cons (.var 2) (.cons (.con (.int 12)) (.nil))))) (.cons (.asg (.nm 4) (.call i_gap_word (.cons (.var 3) (.nil)))) (.cons (.asg (.nm 5) (.lc (.var 7) (.tup (.cons (.nm 7) (.cons (.nm 10) (.nil)))) (.val (.var 3)) (.some (.cmp .NotEq (.var 7) (.con (.str "")))))) (.cons (.ife (.or (.not (.isi true (.var 4))) (.or (.cmp .NotEq (.bf .len (.cons (.var 4) (.nil))) (.call i__law_distance (.cons (.var 3) (.nil)))) (.one (.cmp .NotEq (.call i_gap_word (.cons (.var 3) (.nil))) (.var 4))))) (.cons (.ret (.some (.con (.bl false)))) (.nil)) (.nil)) (.cons (.asg (.nm 6) (.var 3)) (.cons (.for_ (.nm 7) (.val (.var 4)) (.cons (.asg (.nm 8) (.bin .Sub (.call i__law_distance (.cons (.var 6) (.nil))) (.con (.int 1)))) (.cons (.ife (.or (.cmp .NotIn (.var 7) (.var 5)) (.one (.cmp .NotEq (.call i__law_distance (.cons (.call i__law_without_2 (.cons (.var 6) (.cons (.var 7) (.nil)))) (.nil))) (.var 8)))) (.cons (.ret (.some (.con (.bl false)))) (.nil)) (.nil)) (.cons (.for_ (.nm 9) (.val (.var 5)) (.cons (.ife (.and (.cmp .Lt (.var 9) (.var 7)) (.one (.cmp .Eq (.call i__law_distance (.cons (.call i__law_without_2 (.cons (.var 6) (.cons (.var 9) (.nil)))) (.nil))) (.var 8)))) (.cons (.ret (.some (.con (.bl false)))) (.nil)) (.nil)) (.nil))) (.cons (.asg (.nm 6) (.call i__law_without_2 (.cons (.var 6) (.cons (.var 7) (.nil))))) (.nil)))))) (.cons (.ife (.cmp .NotEq (.lc (.var 7) (.tup (.cons (.nm 7) (.cons (.nm 10) (.nil)))) (.val (.var 6)) (.some (.cmp .NotEq (.var 7) (.var 10)))) (.lst (.nil))) (.cons (.ret (.some (.con (.bl false)))) (.nil)) (.nil)) (.nil)))))))))
abbrev zzl2 : IS := .ret (.some (.con (.bl true)))
structure Gam10 (Γ : Nat → Option FDef) : Prop where
  h0 : Γ i_cycles_of = some f_cycles_of
  h2 : Γ i_gap_distance = some f_gap_distance
  h3 : Γ i_as_pairs = some f_as_pairs
  h4 : Γ i_compose = some f_compose
  h5 : Γ i_exchange = some f_exchange
  h6 : Γ i_gap_word = some f_gap_word
  l0 : Γ i__law_source = some f__law_source
  l1 : Γ i__law_draw = some f__law_draw
  l2 : Γ i__law_shuffled = some f__law_shuffled
  l3 : Γ i__law_permutation = some f__law_permutation
  l4 : Γ i__law_cycles = some f__law_cycles
  l5 : Γ i__law_distance = some f__law_distance
  l6 : Γ i__law_without_2 = some f__law_without_2
  hL : Γ i_law_35 = some f_law_35
theorem Gam10.w {Γ : Nat → Option FDef} (g : Gam10 Γ) : GamW Γ := ⟨g.h0, g.h2, g.h3, g.h4, g.h5, g.h6⟩
section
variable {ks : List Str} {p r : Pm}
theorem gw_step (K : Kok ks) (Q : Prm ks r) {n : Nat} (hn : gapd r = n + 1) : ∃ a ∈ lbs ks, gwd ks (n + 1) r = a :: gwd ks n (bef ks r a) ∧ Prm ks (bef ks r a) ∧ gapd (bef ks r a) = n ∧ ∀ x ∈ lbs ks, ltStr x a = true → gapd (bef ks r x) ≠ n := by
  have few := K.few
  have : ∃ x ∈ ks, im r x ≠ x := by
    apply Classical.byContradiction
    intro nn
    have z := (gap_zero Q (by omega) K.gap).mpr fun x hx => Classical.byContradiction fun w => nn ⟨x, hx, w⟩
    omega
  obtain ⟨b, b1, b2, b3⟩ := gap_down Q (by omega) K.gap this
  obtain ⟨a, ha⟩ : ∃ a, (lbs ks).find? (low ks r) = some a := by
    cases h : (lbs ks).find? (low ks r) with
    | some a => exact ⟨a, rfl⟩
    | none =>
      have := List.find?_eq_none.mp h b (in_lbs b1 b2)
      exact absurd (decide_eq_true (by omega)) this
  have al : low ks r a = true := List.find?_some ha
  obtain ⟨_, A, B, spl, hA⟩ := List.find?_eq_some_iff_append.mp ha
  have am : a ∈ lbs ks := by rw [spl]; simp
  obtain ⟨a1, a2⟩ := lbs_in am
  obtain ⟨Bq, bs, _⟩ := bef_ok Q (by omega) K.gap a1 a2
  have ad : gapd (bef ks r a) = n := by
    have := of_decide_eq_true al
    omega
  have eg : gwd ks (n + 1) r = a :: gwd ks n (bef ks r a) := by
    show (match (lbs ks).find? (low ks r) with | some a => a :: gwd ks n (bef ks r a) | none => []) = _
    rw [ha]
  refine ⟨a, am, eg, Bq, ad, fun x hx lt e => ?_⟩
  have so : (lbs ks).Pairwise fun a b => leStr a b = true := K.so.sublist List.filter_sublist
  rw [spl] at hx so
  have low1 : low ks r x = true := decide_eq_true (by omega)
  rcases List.mem_append.mp hx with h | h
  · have := hA x h
    rw [low1] at this
    exact Bool.noConfusion this
  · rcases List.mem_cons.mp h with h | h
    · subst h
      rw [show ltStr x x = false from decide_eq_false (List.lt_irrefl _)] at lt
      exact Bool.noConfusion lt
    · have := (List.pairwise_cons.mp (List.pairwise_append.mp so).2.1).1 x h
      rw [← not_lt_le, lt] at this
      exact Bool.noConfusion this
theorem gw_len (K : Kok ks) : ∀ (n : Nat) (r : Pm), gapd r = n → Prm ks r → (gwd ks n r).length = n
  | 0, _, _, _ => rfl
  | n + 1, r, hn, Q => by
    obtain ⟨a, _, eg, Bq, ad, _⟩ := gw_step K Q hn
    rw [eg, List.length_cons, gw_len K n _ ad Bq]
end
theorem eqv_sd : ∀ c : List Str, PyData.eqv (.tuple (c.map PyData.str)) (.tuple (c.map PyData.str)) = true := fun c => PySem.SeqAt.eqv_refl_plain _ (by
  show PyData.plainAll (c.map PyData.str) = true
  induction c with
  | nil => rfl
  | cons x c ih => exact (Bool.and_eq_true _ _).mpr ⟨rfl, ih⟩)
theorem ne_sd {c : List Str} {S : Store} : cmpD .NotEq (.tup (sd c)) (.tup (sd c)) S = some false := by
  show (eqD (.tup (sd c)) (.tup (sd c)) S).map not = _
  have e : toPy S 8 (.tup (sd c)) = some (.tuple (c.map PyData.str)) := by
    show (mapO (toPy S 7) (sd c)).map PyData.tuple = _
    rw [mapO_sd]
    rfl
  unfold eqD
  rw [e]
  show (some (PyData.eqv (.tuple (c.map PyData.str)) (.tuple (c.map PyData.str)))).map not = _
  rw [eqv_sd]
  rfl
theorem ne_ii (i : Int) {S : Store} : cmpD .NotEq (.int i) (.int i) S = some false := by
  show (cmpD .Eq (.int i) (.int i) S).map not = _
  rw [eq_int]
  simp
abbrev eZ (ns : List Int) (o1 : Option D) (s : Nat) (p : Pm) (o4 o5 o6 o7 o8 o9 : Option D) : Env := [some (.rol (ns.map D.int)), o1, some (.loc s), some (.tup (pd p)), o4, o5, o6, o7, o8, o9, none]
section
variable {Γ : Nat → Option FDef} {ks : List Str} {p r : Pm} {S : Store} {ns : List Int} {s m : Nat} {c : Cell} {o1 o4 o5 o6 o7 o8 o9 : Option D}
theorem ldc (g : Gam10 Γ) (K : Kok ks) (Q : Prm ks r) (S : Store) : callN Γ 19 i__law_distance [.tup (pd r)] S = .ok (.int (gapd r)) S := ldist_ok (k := 17) g.l5 g.l4 Q.ok (by unfold PmS; rw [Q.kk]; exact K.so) (by have := key_len Q.kk; have := K.few; omega) S
theorem Z4 (P : Prm ks p) (hl : ks.length < 100) : evS (callN Γ 19) zz4 (eZ ns o1 s p o4 o5 o6 o7 o8 o9) S = .nx (eZ ns o1 s p o4 (some (.loc S.length)) o6 o7 o8 o9) (S ++ [.lst (sd (lbs ks))]) := by
  have pl := key_len P.kk
  have lc := lcP (F := callN Γ 19) (ρ := eZ ns o1 s p o4 o5 o6 o7 o8 o9) (S := S) (i := 7) (j := 10) (rv := 3) (e := .var 7) (c := .some (.cmp .NotEq (.var 7) (.con (.str "")))) (p := p) (fun q : Str × Str => !decide (q.1 = "")) (fun q => .str q.1) rfl (show 7 < 11 by decide) (show 10 < 11 by decide) (by omega) (fun q hq acc => by
      generalize S ++ [Cell.lst acc] = U
      by_cases e : q.1 = ""
      · simp [evC, wipeE, tru, e]
      · simp [evC, wipeE, tru, e]) (fun q _ => rfl)
  have e : (p.filter fun q : Str × Str => !decide (q.1 = "")).map (fun q => D.str q.1) = sd (lbs ks) := by
    unfold lbs sd
    rw [← P.kk, List.filter_map, List.map_map]
    rfl
  rw [e] at lc
  generalize S ++ [Cell.lst (sd (lbs ks))] = U at *
  generalize callN Γ 19 = F at *
  simp [lc]
theorem Z8 (K : Kok ks) (Q : Prm ks r) (h0 : gapd r = 0) : ∃ G, evS (callN Γ 19) zz8 (eZ ns o1 s p o4 o5 (some (.tup (pd r))) o7 o8 o9) S = .nx (eZ ns o1 s p o4 o5 (some (.tup (pd r))) o7 o8 o9) (S ++ G) := by
  have pl := key_len Q.kk
  have few := K.few
  have lc := lcP (F := callN Γ 19) (ρ := eZ ns o1 s p o4 o5 (some (.tup (pd r))) o7 o8 o9) (S := S) (i := 7) (j := 10) (rv := 6) (e := .var 7) (c := .some (.cmp .NotEq (.var 7) (.var 10))) (p := r) (fun q => !decide (q.1 = q.2)) (fun q => .str q.1) rfl (show 7 < 11 by decide) (show 10 < 11 by decide) (by omega) (fun q hq acc => by
      generalize S ++ [Cell.lst acc] = U
      by_cases e : q.1 = q.2
      · simp [evC, wipeE, tru, e]
      · simp [evC, wipeE, tru, e]) (fun q _ => rfl)
  have e : (r.filter fun q => !decide (q.1 = q.2)).map (fun q => D.str q.1) = sd (mvl r) := by
    unfold mvl sd
    rw [List.map_map]
    rfl
  have z := mvl_zero Q (by omega) K.gap
  have mz : mvl r = [] := of_decide_eq_true (by rw [← z]; exact decide_eq_true (by omega))
  rw [e, mz] at lc
  have lc : evE (callN Γ 19) _ _ S = .ok (.loc S.length) (S ++ [Cell.lst []]) := lc
  have n1 := nil_ne (S := S ++ [Cell.lst []] ++ [.lst []]) (n := S.length) (m := (S ++ [Cell.lst []]).length) (by rw [List.append_assoc, get_app0]; rfl) (by rw [get_app0]; rfl)
  refine ⟨[.lst []] ++ [.lst []], ?_⟩
  rw [← List.append_assoc]
  generalize hV : S ++ [Cell.lst []] ++ [.lst []] = V at *
  generalize S ++ [Cell.lst []] = U at *
  generalize callN Γ 19 = F at *
  simp [lc, hV, n1, tru]
theorem Z5 (g : Gam10 Γ) (K : Kok ks) (P : Prm ks p) (hd : gapd p < 150) : evS (callN Γ 19) zz5 (eZ ns o1 s p (some (.tup (sd (gwd ks (gapd p) p)))) o5 o6 o7 o8 o9) S = .nx (eZ ns o1 s p (some (.tup (sd (gwd ks (gapd p) p)))) o5 o6 o7 o8 o9) S := by
  have c1 := word_ok (S := S) g.w K P hd
  have c2 := ldc g K P S
  have n1 := ne_sd (c := gwd ks (gapd p) p) (S := S)
  have n2 := ne_ii (gapd p : Nat) (S := S)
  have l := gw_len K _ p rfl P
  have l : (sd (gwd ks (gapd p) p)).length = gapd p := by rw [sd_len, l]
  generalize sd (gwd ks (gapd p) p) = w at *
  have is1 : ∀ (F : Fns) (ρ : Env) (S : Store) (xs : List D), ρ[4]? = some (some (.tup xs)) → evE F (.isi true (.var 4)) ρ S = .ok (.bl true) S := fun F ρ S xs h => by
    show ((evE F (.var 4) ρ S).bind _) = _
    rw [ev_var, h]
    rfl
  have is2 := is1 (callN Γ 19) (eZ ns o1 s p (some (.tup w)) o5 o6 o7 o8 o9) S w rfl
  generalize callN Γ 19 = F at *
  generalize gapd p = n at *
  simp [is2, c1, c2, l, n1, n2, tru]
theorem inner10 (g : Gam10 Γ) (K : Kok ks) (Q : Prm ks r) {n5 : Nat} (h5 : S[n5]? = some (.lst (sd (lbs ks)))) {a : Str} {n : Nat} (hx : ∀ x ∈ lbs ks, ltStr x a = true → gapd (bef ks r x) ≠ n) :
    ∃ o9', evS (callN Γ 19) zw3 (eZ ns o1 s p o4 (some (.loc n5)) (some (.tup (pd r))) (some (.str a)) (some (.int (n : Nat))) o9) S = .nx (eZ ns o1 s p o4 (some (.loc n5)) (some (.tup (pd r))) (some (.str a)) (some (.int (n : Nat))) o9') S := by
  have few := K.few
  have ei : evI (callN Γ 19) (.val (.var 5)) (eZ ns o1 s p o4 (some (.loc n5)) (some (.tup (pd r))) (some (.str a)) (some (.int (n : Nat))) o9) S = .ok (sd (lbs ks), .lst n5 (sd (lbs ks))) S := by
    rw [evi_val]
    simp [walkOf, seqOf, lstAt, h5, srcOf]
  have key := loopF_all (src := .lst n5 (sd (lbs ks))) (f := fun x ρ S => (asgT (callN Γ 19) (.nm 9) x ρ S).bindS (fun ρ' S' => evSs (callN Γ 19) zu ρ' S')) (xs := sd (lbs ks)) (ρ := eZ ns o1 s p o4 (some (.loc n5)) (some (.tup (pd r))) (some (.str a)) (some (.int (n : Nat))) o9) (S := S)
    (fun i ρ S' => ∃ o9, ρ = eZ ns o1 s p o4 (some (.loc n5)) (some (.tup (pd r))) (some (.str a)) (some (.int (n : Nat))) o9 ∧ S' = S) ⟨o9, rfl, rfl⟩ (fun i x ρ S' ⟨o, e1, e2⟩ hi => ?_) (fun ρ S' ⟨o, e1, e2⟩ => by
      subst e2
      exact decide_eq_true (by unfold lstAt; rw [h5]))
  · obtain ⟨ρ', S', e0, o, e1, e2⟩ := key
    subst e1 e2
    refine ⟨o, ?_⟩
    rw [zw3, st_for', ei]
    exact e0
  · subst e1 e2
    refine ⟨decide_eq_true (by unfold lstAt; rw [h5]), _, _, .inl ?_, some x, rfl, rfl⟩
    obtain ⟨y, hy, rfl⟩ := List.mem_map.mp (List.mem_of_getElem? hi)
    obtain ⟨y1, y2⟩ := lbs_in hy
    obtain ⟨B, _⟩ := bef_ok Q (by omega) K.gap y1 y2
    have c1 := wo_call (k := 18) (S := S') g.l6 Q (by omega) K.gap y1 y2
    have c2 := ldc g K B S'
    have lt : cmpD .Lt (.str y) (.str a) S' = some (ltStr y a) := rfl
    generalize callN Γ 19 = F at *
    cases hl : ltStr y a with
    | true =>
      have := hx y hy hl
      have d : cmpD .Eq (.int (gapd (bef ks r y))) (.int (n : Nat)) S' = some false := by
        rw [eq_int]
        exact congrArg some (decide_eq_false (by omega))
      rw [hl] at lt
      generalize gapd (bef ks r y) = dd at *
      simp [-eq_int, c1, c2, lt, d, tru]
    | false =>
      rw [hl] at lt
      simp [lt, tru]
theorem walk10 (g : Gam10 Γ) (K : Kok ks) {n5 : Nat} (h5 : S[n5]? = some (.lst (sd (lbs ks)))) : ∀ (n : Nat) (r : Pm) (o7 o8 o9 : Option D), gapd r = n → Prm ks r →
    ∃ r' o7' o8' o9', Prm ks r' ∧ gapd r' = 0 ∧ loopF .free (fun x ρ S => (asgT (callN Γ 19) (.nm 7) x ρ S).bindS (fun ρ' S' => evSs (callN Γ 19) zw ρ' S')) (sd (gwd ks n r)) (eZ ns o1 s p o4 (some (.loc n5)) (some (.tup (pd r))) o7 o8 o9) S = .nx (eZ ns o1 s p o4 (some (.loc n5)) (some (.tup (pd r'))) o7' o8' o9') S := by
  intro n
  induction n with
  | zero => exact fun r o7 o8 o9 hn Q => ⟨r, o7, o8, o9, Q, hn, rfl⟩
  | succ n ih =>
    intro r o7 o8 o9 hn Q
    have few := K.few
    obtain ⟨a, am, eg, B, ad, hx⟩ := gw_step K Q hn
    obtain ⟨a1, a2⟩ := lbs_in am
    obtain ⟨o9', i1⟩ := inner10 (ns := ns) (o1 := o1) (s := s) (p := p) (o4 := o4) (o9 := o9) g K Q h5 hx
    obtain ⟨r', o7', o8', o9'', R1, R2, R3⟩ := ih (bef ks r a) (some (.str a)) (some (.int (n : Nat))) o9' ad B
    refine ⟨r', o7', o8', o9'', R1, R2, ?_⟩
    have c1 := wo_call (k := 18) (S := S) g.l6 Q (by omega) K.gap a1 a2
    have c2 := ldc g K B S
    have c3 := ldc g K Q S
    rw [ad] at c2
    rw [hn] at c3
    have n2 := ne_ii (n : Nat) (S := S)
    have n3 := nin_lst (x := a) h5
    rw [hasS_iff.mpr am] at n3
    have q0 : asgT (callN Γ 19) (.nm 7) (.str a) (eZ ns o1 s p o4 (some (.loc n5)) (some (.tup (pd r))) o7 o8 o9) S = .ok (eZ ns o1 s p o4 (some (.loc n5)) (some (.tup (pd r))) (some (.str a)) o8 o9) S := rfl
    have sb : (((n + 1 : Nat) : Int) - 1) = (n : Int) := by omega
    have t1 : evS (callN Γ 19) zw1 (eZ ns o1 s p o4 (some (.loc n5)) (some (.tup (pd r))) (some (.str a)) o8 o9) S = .nx (eZ ns o1 s p o4 (some (.loc n5)) (some (.tup (pd r))) (some (.str a)) (some (.int (n : Nat))) o9) S := by
      generalize ((n + 1 : Nat) : Int) = z at *
      generalize callN Γ 19 = F at *
      simp [c3, sb]
    have t2 : evS (callN Γ 19) zw2 (eZ ns o1 s p o4 (some (.loc n5)) (some (.tup (pd r))) (some (.str a)) (some (.int (n : Nat))) o9) S = .nx (eZ ns o1 s p o4 (some (.loc n5)) (some (.tup (pd r))) (some (.str a)) (some (.int (n : Nat))) o9) S := by
      generalize callN Γ 19 = F at *
      simp [c1, c2, n2, n3, tru]
    have t4 : evS (callN Γ 19) zw4 (eZ ns o1 s p o4 (some (.loc n5)) (some (.tup (pd r))) (some (.str a)) (some (.int (n : Nat))) o9') S = .nx (eZ ns o1 s p o4 (some (.loc n5)) (some (.tup (pd (bef ks r a)))) (some (.str a)) (some (.int (n : Nat))) o9') S := by
      generalize callN Γ 19 = F at *
      simp [c1]
    rw [eg]
    have st : (asgT (callN Γ 19) (.nm 7) (.str a) (eZ ns o1 s p o4 (some (.loc n5)) (some (.tup (pd r))) o7 o8 o9) S).bindS (fun ρ' S' => evSs (callN Γ 19) zw ρ' S') = .nx (eZ ns o1 s p o4 (some (.loc n5)) (some (.tup (pd (bef ks r a)))) (some (.str a)) (some (.int (n : Nat))) o9') S := by
      rw [q0, bindS_ok, zw, evss_nx t1, evss_nx t2, evss_nx i1, evss_nx t4]
      rfl
    show loopF .free _ (.str a :: sd (gwd ks n (bef ks r a))) _ S = _
    show (if Src.ok .free S = true then (match (asgT (callN Γ 19) (.nm 7) (.str a) (eZ ns o1 s p o4 (some (.loc n5)) (some (.tup (pd r))) o7 o8 o9) S).bindS (fun ρ' S' => evSs (callN Γ 19) zw ρ' S') with
      | .nx ρ' S' => loopF .free _ (sd (gwd ks n (bef ks r a))) ρ' S'
      | .ct ρ' S' => loopF .free _ (sd (gwd ks n (bef ks r a))) ρ' S'
      | .bk ρ' S' => .nx ρ' S'
      | o => o) else .bad) = _
    rw [if_pos (show Src.ok .free S = true from rfl), st]
    exact R3
theorem law10_ok (g : Gam10 Γ) (ns : List Int) (hl : ns.length ≤ 63) : ∃ S, callN Γ 20 i_law_35 [.rol (ns.map D.int)] [] = .ok (.bl true) S := by
  rw [callN_eq g.hL rfl]
  obtain ⟨m, hm, ei⟩ : ∃ m : Nat, m ≤ 4 ∧ evI (callN Γ 19) (.range (.cons (.bf .max2 (.cons (.con (.int 1)) (.cons (.bf .min2 (.cons (.con (.int 4)) (.cons (.bf .len (.cons (.var 0) (.nil))) (.nil)))) (.nil)))) (.nil))) [some (.rol (ns.map D.int)), none, none, none, none, none, none, none, none, none, none] [] = .ok (rangeL 0 m, .free) [] := by
    have e1 : bfD .len [.rol (ns.map D.int)] [] = .ok (.int (ns.length : Nat)) [] := by
      show ok? ((lenD [] (.rol (ns.map D.int))).map fun n : Nat => D.int n) [] = _
      show ok? ((some (ns.map D.int).length).map fun n : Nat => D.int n) [] = _
      rw [List.length_map]
      rfl
    have e2 : bfD .min2 [.int 4, .int (ns.length : Nat)] [] = .ok (.int (min 4 ns.length : Nat)) [] := by
      rw [bf_min]
      congr 2
      split <;> omega
    have e3 : bfD .max2 [.int 1, .int (min 4 ns.length : Nat)] [] = .ok (.int (max 1 (min 4 ns.length) : Nat)) [] := by
      rw [bf_max]
      congr 2
      split <;> omega
    refine ⟨max 1 (min 4 ns.length), by omega, ?_⟩
    have hmm : max 1 (min 4 ns.length) < 10 ^ 9 := by omega
    have er := range_n hmm
    generalize max 1 (min 4 ns.length) = m at *
    simp only [evi_range, evs_cons, evs_nil, ev_bf, ev_con, ev_var]
    simp [-bf_min, -bf_max, e1, e2, e3, er]
  have key := loopF_all (src := .free) (f := fun x ρ S => (asgT (callN Γ 19) (.nm 1) x ρ S).bindS (fun ρ' S' => evSs (callN Γ 19) zzB ρ' S')) (xs := rangeL 0 m) (ρ := [some (.rol (ns.map D.int)), none, none, none, none, none, none, none, none, none, none]) (S := [])
    (fun i ρ S' => ∃ o1 o2 o3 o4 o5 o6 o7 o8 o9, ρ = [some (.rol (ns.map D.int)), o1, o2, o3, o4, o5, o6, o7, o8, o9, none]) ⟨none, none, none, none, none, none, none, none, none, rfl⟩ (fun i x ρ S' ⟨o1, o2, o3, o4, o5, o6, o7, o8, o9, e1⟩ hi => ?_) (fun _ _ _ => rfl)
  · obtain ⟨ρ', S', e0, o1, o2, o3, o4, o5, o6, o7, o8, o9, e1⟩ := key
    subst e1
    have e5 : evS (callN Γ 19) zzl1 [some (.rol (ns.map D.int)), none, none, none, none, none, none, none, none, none, none] [] = .nx [some (.rol (ns.map D.int)), o1, o2, o3, o4, o5, o6, o7, o8, o9, none] S' := by
      rw [zzl1, st_for', ei]
      exact e0
    refine ⟨[], ?_⟩
    show gcO [] (bodyO (evSs (callN Γ 19) (.cons zzl1 (.cons zzl2 .nil)) [some (.rol (ns.map D.int)), none, none, none, none, none, none, none, none, none, none] [])) = _
    rw [evss_nx e5]
    have gd := gc_drop (S := []) (T := S') (d := .bl true) rfl
    rw [List.nil_append] at gd
    simp [gd]
  · subst e1
    obtain ⟨rfl, hi2⟩ := rangeL_get hi
    rw [Int.zero_add]
    obtain ⟨a, b, b0, b1, q1⟩ := src_ok (k := 18) g.l0 ns i (by omega) S'
    have hs : (S' ++ [Cell.lst [.int a, .int b, .int 0]])[S'.length]? = some (.lst [.int a, .int b, .int 0]) := by rw [get_app0]; rfl
    obtain ⟨p, c, lp, hc, q2⟩ := lperm_ok (k := 16) g.l3 g.l2 g.l1 hs ⟨a, b, 0, rfl, b0, b1, Int.le_refl _, Int.le_refl _⟩ (m := 0) (by decide)
    have P : Prm (p.map (·.1)) p := ⟨rfl, lp.ok, lp.inj⟩
    have K : Kok (p.map (·.1)) := ⟨lp.ok.nd, lp.so, lp.gap, by rw [List.length_map]; have := lp.few; omega⟩
    have q0 : asgT (callN Γ 19) (.nm 1) (.int i) [some (.rol (ns.map D.int)), o1, o2, o3, o4, o5, o6, o7, o8, o9, none] S' = .ok [some (.rol (ns.map D.int)), some (.int i), o2, o3, o4, o5, o6, o7, o8, o9, none] S' := rfl
    have t1 : evS (callN Γ 19) zz1 [some (.rol (ns.map D.int)), some (.int i), o2, o3, o4, o5, o6, o7, o8, o9, none] S' = .nx [some (.rol (ns.map D.int)), some (.int i), some (.loc S'.length), o3, o4, o5, o6, o7, o8, o9, none] (S' ++ [Cell.lst [.int a, .int b, .int 0]]) := by
      generalize S' ++ [Cell.lst [.int a, .int b, .int 0]] = V at *
      generalize callN Γ 19 = F at *
      simp [q1]
    have t2 : evS (callN Γ 19) zz2 [some (.rol (ns.map D.int)), some (.int i), some (.loc S'.length), o3, o4, o5, o6, o7, o8, o9, none] (S' ++ [Cell.lst [.int a, .int b, .int 0]]) = .nx (eZ ns (some (.int i)) S'.length p o4 o5 o6 o7 o8 o9) ((S' ++ [Cell.lst [.int a, .int b, .int 0]]).set S'.length c) := by
      generalize (S' ++ [Cell.lst [.int a, .int b, .int 0]]).set S'.length c = U at *
      generalize S' ++ [Cell.lst [.int a, .int b, .int 0]] = V at *
      generalize callN Γ 19 = F at *
      simp [q2]
    generalize (S' ++ [Cell.lst [.int a, .int b, .int 0]]).set S'.length c = T at *
    generalize S'.length = s at *
    have gb : gapd p < 150 := by have := gapd_le p; have := lp.few; omega
    generalize p.map (·.1) = ks at *
    have few := K.few
    have w := word_ok (S := T) g.w K P gb
    have t3 : evS (callN Γ 19) zz3 (eZ ns (some (.int i)) s p o4 o5 o6 o7 o8 o9) T = .nx (eZ ns (some (.int i)) s p (some (.tup (sd (gwd ks (gapd p) p)))) o5 o6 o7 o8 o9) T := by
      generalize callN Γ 19 = F at *
      simp [w]
    have t4 := Z4 (Γ := Γ) (ns := ns) (o1 := some (.int i)) (s := s) (S := T) (o4 := some (.tup (sd (gwd ks (gapd p) p)))) (o5 := o5) (o6 := o6) (o7 := o7) (o8 := o8) (o9 := o9) P (by omega)
    have h5 : (T ++ [Cell.lst (sd (lbs ks))])[T.length]? = some (.lst (sd (lbs ks))) := by rw [get_app0]; rfl
    have t5 := Z5 (ns := ns) (o1 := some (.int i)) (s := s) (S := T ++ [Cell.lst (sd (lbs ks))]) (o5 := some (.loc T.length)) (o6 := o6) (o7 := o7) (o8 := o8) (o9 := o9) g K P gb
    have t6 : evS (callN Γ 19) zz6 (eZ ns (some (.int i)) s p (some (.tup (sd (gwd ks (gapd p) p)))) (some (.loc T.length)) o6 o7 o8 o9) (T ++ [Cell.lst (sd (lbs ks))]) = .nx (eZ ns (some (.int i)) s p (some (.tup (sd (gwd ks (gapd p) p)))) (some (.loc T.length)) (some (.tup (pd p))) o7 o8 o9) (T ++ [Cell.lst (sd (lbs ks))]) := rfl
    obtain ⟨r', o7', o8', o9', R1, R2, R3⟩ := walk10 (ns := ns) (o1 := some (.int i)) (s := s) (p := p) (o4 := some (.tup (sd (gwd ks (gapd p) p)))) g K h5 (gapd p) p o7 o8 o9 rfl P
    have t7 : evS (callN Γ 19) zz7 (eZ ns (some (.int i)) s p (some (.tup (sd (gwd ks (gapd p) p)))) (some (.loc T.length)) (some (.tup (pd p))) o7 o8 o9) (T ++ [Cell.lst (sd (lbs ks))]) = .nx (eZ ns (some (.int i)) s p (some (.tup (sd (gwd ks (gapd p) p)))) (some (.loc T.length)) (some (.tup (pd r'))) o7' o8' o9') (T ++ [Cell.lst (sd (lbs ks))]) := R3
    obtain ⟨G, t8⟩ := Z8 (Γ := Γ) (ns := ns) (o1 := some (.int i)) (s := s) (p := p) (o4 := some (.tup (sd (gwd ks (gapd p) p)))) (o5 := some (.loc T.length)) (o7 := o7') (o8 := o8') (o9 := o9') (S := T ++ [Cell.lst (sd (lbs ks))]) K R1 R2
    refine ⟨rfl, eZ ns (some (.int i)) s p (some (.tup (sd (gwd ks (gapd p) p)))) (some (.loc T.length)) (some (.tup (pd r'))) o7' o8' o9', T ++ [Cell.lst (sd (lbs ks))] ++ G, .inl ?_, _, _, _, _, _, _, _, _, _, rfl⟩
    rw [q0, bindS_ok, zzB, evss_nx t1, evss_nx t2, evss_nx t3, evss_nx t4, evss_nx t5, evss_nx t6, evss_nx t7, evss_nx t8]
    rfl
end

end Iv

set_option maxRecDepth 100000
set_option maxHeartbeats 0
namespace Iv
open PySem PySem.Spec PyProof.Rows L2
def top (i : Nat) : Stmt := PySem.Challenge.pw_crossfloor_k10_gap_words.main.body.getD i (.Pass ⟨0, 0, 0, 0⟩)
def lst : List De := [
  ⟨i_as_pairs, "as_pairs", top 2, ["mapping"], ["mapping", "label"], f_as_pairs⟩,
  ⟨i_cycles_of, "cycles_of", top 3, ["permutation"], ["permutation", "mapping", "seen", "cycles", "start", "cycle", "label"], f_cycles_of⟩,
  ⟨i_gap_distance, "gap_distance", top 4, ["permutation"], ["permutation", "moved", "label", "image", "cycle"], f_gap_distance⟩,
  ⟨i_compose, "compose", top 5, ["first", "second"], ["first", "second", "mapping", "label", "image"], f_compose⟩,
  ⟨i_exchange, "exchange", top 6, ["labels", "label"], ["labels", "label", "mapping", "other"], f_exchange⟩,
  ⟨i_gap_word, "gap_word", top 7, ["permutation"], ["permutation", "labels", "rest", "word", "label", "shorter", "image"], f_gap_word⟩,
  ⟨i__law_source, "_law_source", top 9, ["script", "index"], ["script", "index", "cell"], f__law_source⟩,
  ⟨i__law_draw, "_law_draw", top 10, ["source", "bound"], ["source", "bound", "digit", "mixed"], f__law_draw⟩,
  ⟨i__law_shuffled, "_law_shuffled", top 11, ["source", "things"], ["source", "things", "left", "step"], f__law_shuffled⟩,
  ⟨i__law_permutation, "_law_permutation", top 12, ["source", "most"], ["source", "most", "many", "menu", "labels", "images", "way", "mapping", "index", "label"], f__law_permutation⟩,
  ⟨i__law_cycles, "_law_cycles", top 13, ["permutation"], ["permutation", "images", "seen", "found", "label", "cycle"], f__law_cycles⟩,
  ⟨i__law_distance, "_law_distance", top 14, ["permutation"], ["permutation", "moved", "label", "image", "cycle"], f__law_distance⟩,
  ⟨i__law_odd, "_law_odd", top 15, ["permutation"], ["permutation", "cycle"], f__law_odd⟩,
  ⟨i__law_without_2, "_law_without", top 16, ["permutation", "label"], ["permutation", "label", "swapped", "images", "other", "image"], f__law_without_2⟩,
  ⟨i_law_35, "law", top 17, ["script"], ["script", "index", "source", "permutation", "word", "labels", "rest", "label", "left", "lesser", "image"], f_law_35⟩]
def cs : List (Str × D) := [("GAP", (.str ""))]

theorem chk_ok : chkAll lst cs = true := by decide +kernel
theorem uq : uniq lst = true := by decide +kernel
def lawDe : De := ⟨i_law_35, "law", top 17, ["script"], ["script", "index", "source", "permutation", "word", "labels", "rest", "label", "left", "lesser", "image"], f_law_35⟩
theorem law_mem : lawDe ∈ lst := by simp [lst, lawDe]
theorem law_find : (lst.find? fun e' => decide (e'.id = lawDe.id)) = some lawDe := by rfl
theorem sem (ns : List Int) (hl : ns.length ≤ 63) (hb : ∀ i ∈ ns, Builtin.Int.intBits i ≤ 1048576) : ∃ S, callN (ΓOf lst) 20 lawDe.id [.rol (ns.map D.int)] [] = .ok (.bl true) S := law10_ok ⟨rfl, rfl, rfl, rfl, rfl, rfl, rfl, rfl, rfl, rfl, rfl, rfl, rfl, rfl⟩ ns hl


/-! ### the head -/
abbrev R0 : PySem.W.OpenRow := PySem.W.OpenLaw.row PySem.Challenge.rw_crossfloor_k10_gap_words
abbrev hk0 : PySem.W.Hook := He.hookD 4 (faOf lst cs) (lst.map De.dd)
def ob0 (s : PySem.W.SharedT) : He.AlD := He.obsDG 4 (faOf lst cs) (lst.map De.dd) (HandSHeadRun.getT s)
theorem ob0_eq (s : PySem.W.SharedT) : ob0 s = hk0.obs s.abs := He.obsDG_eq (HandSHeadRun.getT_eq s)
def loose0 : List PySem.Str := [PySem.Str.ofString "GAP", PySem.Str.ofString "as_pairs", PySem.Str.ofString "cycles_of", PySem.Str.ofString "gap_distance", PySem.Str.ofString "compose", PySem.Str.ofString "exchange", PySem.Str.ofString "gap_word", PySem.Str.ofString "_law_source", PySem.Str.ofString "_law_draw", PySem.Str.ofString "_law_shuffled", PySem.Str.ofString "_law_permutation", PySem.Str.ofString "_law_cycles", PySem.Str.ofString "_law_distance", PySem.Str.ofString "_law_odd", PySem.Str.ofString "_law_without"]
theorem run0 (w : World) : HandSHeadRun.RunEq R0 (PySem.W.view R0.prog [17]) hk0 ob0 20000 (loose0) w := by
  intro os
  kernel_rfl
end Iv
open PySem PySem.W PySem.Calls PyProof.Rows
theorem PySem.Challenge.cw_crossfloor_k10_gap_words_holds : PySem.Challenge.rw_crossfloor_k10_gap_words.Holds := by
  w_on; o_law
  refine HandSHeadRun.head_any (r := OpenLaw.row PySem.Challenge.rw_crossfloor_k10_gap_words) (q := view (OpenLaw.row PySem.Challenge.rw_crossfloor_k10_gap_words).prog [17]) (H := Iv.hk0) (ob := Iv.ob0) (M := 20000) (loose := Iv.loose0) (d := HandSHeadRun.topDef (OpenLaw.row PySem.Challenge.rw_crossfloor_k10_gap_words).prog 17) (kwd := []) Iv.ob0_eq
    (by kernel_rfl) (fun s => by kernel_rfl) Iv.run0 (by kernel_rfl) (by kernel_rfl) (by kernel_rfl) (by rfl) (by first | assumption | decide +kernel) (by decide +kernel) ⟨rfl, rfl, rfl, rfl, rfl, by decide +kernel⟩ ?hw ?hc
  case hw => w_witness2
  case hc => exact Iv.walk_of (l := Iv.lst) (cs := Iv.cs) (k := 20) (n := 63) (e := Iv.lawDe) rfl (by decide) (by kernel_rfl) ⟨rfl, by decide, by decide⟩ (by kernel_rfl) Iv.uq Iv.chk_ok Iv.law_mem ⟨_, rfl⟩ Iv.law_find Iv.sem



