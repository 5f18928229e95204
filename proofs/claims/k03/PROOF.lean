import PyProof.Rows.All
import HandS.ForMost
import KE.SortData
import KE.DataEq
import KE.DataMinMax
import HandS.SetKeys
import HandS.Wide
import HandS.Deep
import HandS.TupAny
import HandS.Strs
import HandS.Dict
import KE.KxIndex
import HandS.More
import HandS.Text
import HandS.Defaults
import HandS.Flow
import HandS.Exc
import HandS.WordsExc
import HandS.Iter
import HandS.Zip
import PyProof.Rows.ChunkLeaf
import HandS.Comp
import HandS.Small
import KE.KDictPairs
import PyProof.ReprRoads
import KE.GoesMore
import KE.GoesEnum
import HandS.Conv
import HandS.DictComp
import HandS.IsInst
import HandS.SetBool
import KE.LtData
import HandS.ExcInit
import HandS.ExcOwn
import HandS.FStr
import HandS.ExcField
import HandS.ExcIs
import HandS.TryOnly
import HandS.Style
import HandS.MakeKwOnly
import HandS.HeadEnd
import HandS.EndBits
import HandS.HeadHook2
import Wide.All
import OpenK.AllK
import Wide.FinOn
import HandS.Head0
import HandS.Head1
import HandS.Head2
import PySem.Challenge.RW_crossfloor_k03_invalid_floors
set_option Elab.async false
set_option linter.all false
/-! Iv1: data, the store, the small language, its interpreter. -/
namespace Iv
open PySem

/-- data: numbers, texts, tuples by value; all that changes by its place in the store -/
inductive D where
  | non | bl (b : Bool) | int (i : Int) | str (x : Str) | tup (xs : List D) | rol (xs : List D) | loc (n : Nat)
  deriving Inhabited

mutual
def D.same : D → D → Bool
  | .non, .non => true
  | .bl a, .bl b => decide (a = b)
  | .int a, .int b => decide (a = b)
  | .str a, .str b => decide (a = b)
  | .loc a, .loc b => decide (a = b)
  | .tup a, .tup b => D.sames a b
  | .rol a, .rol b => D.sames a b
  | .non, .bl _ | .non, .int _ | .non, .str _ | .non, .tup _ | .non, .rol _ | .non, .loc _ => false
  | .bl _, .non | .bl _, .int _ | .bl _, .str _ | .bl _, .tup _ | .bl _, .rol _ | .bl _, .loc _ => false
  | .int _, .non | .int _, .bl _ | .int _, .str _ | .int _, .tup _ | .int _, .rol _ | .int _, .loc _ => false
  | .str _, .non | .str _, .bl _ | .str _, .int _ | .str _, .tup _ | .str _, .rol _ | .str _, .loc _ => false
  | .tup _, .non | .tup _, .bl _ | .tup _, .int _ | .tup _, .str _ | .tup _, .rol _ | .tup _, .loc _ => false
  | .rol _, .non | .rol _, .bl _ | .rol _, .int _ | .rol _, .str _ | .rol _, .tup _ | .rol _, .loc _ => false
  | .loc _, .non | .loc _, .bl _ | .loc _, .int _ | .loc _, .str _ | .loc _, .tup _ | .loc _, .rol _ => false
def D.sames : List D → List D → Bool
  | [], [] => true
  | a :: as, b :: bs => D.same a b && D.sames as bs
  | [], _ :: _ => false
  | _ :: _, [] => false
end
mutual
theorem D.same_eq : ∀ {a b : D}, D.same a b = true → a = b
  | .non, .non, _ => rfl
  | .bl _, .bl _, h => by rw [of_decide_eq_true h]
  | .int _, .int _, h => by rw [of_decide_eq_true h]
  | .str _, .str _, h => by rw [of_decide_eq_true h]
  | .loc _, .loc _, h => by rw [of_decide_eq_true h]
  | .tup a, .tup b, h => by rw [D.sames_eq (a := a) (b := b) h]
  | .rol a, .rol b, h => by rw [D.sames_eq (a := a) (b := b) h]
  | .non, .bl _, h | .non, .int _, h | .non, .str _, h | .non, .tup _, h | .non, .rol _, h | .non, .loc _, h => by cases h
  | .bl _, .non, h | .bl _, .int _, h | .bl _, .str _, h | .bl _, .tup _, h | .bl _, .rol _, h | .bl _, .loc _, h => by cases h
  | .int _, .non, h | .int _, .bl _, h | .int _, .str _, h | .int _, .tup _, h | .int _, .rol _, h | .int _, .loc _, h => by cases h
  | .str _, .non, h | .str _, .bl _, h | .str _, .int _, h | .str _, .tup _, h | .str _, .rol _, h | .str _, .loc _, h => by cases h
  | .tup _, .non, h | .tup _, .bl _, h | .tup _, .int _, h | .tup _, .str _, h | .tup _, .rol _, h | .tup _, .loc _, h => by cases h
  | .rol _, .non, h | .rol _, .bl _, h | .rol _, .int _, h | .rol _, .str _, h | .rol _, .tup _, h | .rol _, .loc _, h => by cases h
  | .loc _, .non, h | .loc _, .bl _, h | .loc _, .int _, h | .loc _, .str _, h | .loc _, .tup _, h | .loc _, .rol _, h => by cases h
theorem D.sames_eq : ∀ {a b : List D}, D.sames a b = true → a = b
  | [], [], _ => rfl
  | a :: as, b :: bs, h => by
    have q := Bool.and_eq_true_iff.mp h
    rw [D.same_eq q.1, D.sames_eq q.2]
  | [], _ :: _, h => by cases h
  | _ :: _, [], h => by cases h
end
mutual
theorem D.same_refl : ∀ (a : D), D.same a a = true
  | .non => rfl
  | .bl _ | .int _ | .str _ | .loc _ => decide_eq_true rfl
  | .tup a | .rol a => D.sames_refl a
theorem D.sames_refl : ∀ (a : List D), D.sames a a = true
  | [] => rfl
  | a :: as => Bool.and_eq_true_iff.mpr ⟨D.same_refl a, D.sames_refl as⟩
end
instance : DecidableEq D := fun a b => if h : D.same a b = true then .isTrue (D.same_eq h) else .isFalse fun e => h (e ▸ D.same_refl a)

mutual
/-- all places below n -/
def D.cl (n : Nat) : D → Bool
  | .tup xs | .rol xs => D.cls n xs
  | .loc m => decide (m < n)
  | .non | .bl _ | .int _ | .str _ => true
def D.cls (n : Nat) : List D → Bool
  | [] => true
  | a :: as => D.cl n a && D.cls n as
end

abbrev Key := Sum Int Str
def hasK (k : Key) (ks : List Key) : Bool := ks.any fun j => decide (j = k)
def D.key? : D → Option Key
  | .int i => some (.inl i)
  | .str x => some (.inr x)
  | _ => none
def ofKey : Key → D
  | .inl i => .int i
  | .inr x => .str x
def keys? : List D → Option (List Key)
  | [] => some []
  | a :: as => match D.key? a, keys? as with
    | some k, some ks => some (k :: ks)
    | _, _ => none

inductive Cell where
  | lst (xs : List D)
  /-- a dict (locked while a loop walks it); one whose keys are tuples -/
  | dct (lk : Bool) (kvs : List (Key × D))
  | dtp (kvs : List (List Key × D))
  | set (ks : List Key)
  | ins (c : Nat) (fs : List (Str × D))
  deriving DecidableEq, Inhabited
def Cell.cl (n : Nat) : Cell → Bool
  | .lst xs => D.cls n xs
  | .dct _ kvs => D.cls n (kvs.map (·.2))
  | .dtp kvs => D.cls n (kvs.map (·.2))
  | .set _ => true
  | .ins _ fs => D.cls n (fs.map (·.2))
abbrev Store := List Cell

inductive Out (α : Type) where
  | ok (a : α) (S : Store)
  | ex (c : Nat) (fs : List (Str × D)) (S : Store)
  | bad
def Out.bind {α β : Type} : Out α → (α → Store → Out β) → Out β
  | .ok a S, f => f a S
  | .ex c fs S, _ => .ex c fs S
  | .bad, _ => .bad
abbrev Env := List (Option D)
abbrev Fns := Nat → List D → Store → Out D

/-! ### reading the store -/
def lstAt (S : Store) (n : Nat) : Option (List D) := match S[n]? with
  | some (.lst xs) => some xs
  | _ => none
def seqOf (S : Store) : D → Option (List D)
  | .tup xs | .rol xs => some xs
  | .loc n => lstAt S n
  | _ => none
def listOf (S : Store) : D → Option (List D)
  | .rol xs => some xs
  | .loc n => lstAt S n
  | _ => none
def lookA {κ β : Type} [DecidableEq κ] (k : κ) : List (κ × β) → Option β
  | [] => none
  | (a, b) :: r => if a = k then some b else lookA k r
def putA {κ β : Type} [DecidableEq κ] (k : κ) (v : β) : List (κ × β) → List (κ × β)
  | [] => [(k, v)]
  | (a, b) :: r => if a = k then (a, v) :: r else (a, b) :: putA k v r

/-! ### the language -/
inductive Bf where
  | len | max2 | min2 | max1 | min1 | sum | abs | sorted | tuple | list | dict | set | all | any | repr | str | int
  deriving DecidableEq
inductive Bm where
  | append | pop | popAt | insert | index | count | add | upper | lower | join | split | partition | get2 | values | items
  deriving DecidableEq
mutual
inductive IE where
  | var (i : Nat)
  | con (c : D)
  | glo (x : Str) (c : D)
  | bin (op : Operator) (a b : IE)
  | neg (a : IE)
  | cmp (op : CmpOp) (a b : IE)
  | chn (op op' : CmpOp) (a b c : IE)
  | and (a b : IE) | or (a b : IE) | not (a : IE)
  /-- the last of an and, an or -/
  | one (a : IE)
  | ite (c a b : IE)
  | tup (es : IEs) | lst (es : IEs)
  | dsp (ks vs : IEs)
  /-- a dict's display: key, value, key, value, .. -/
  | dis (es : IEs)
  /-- isinstance(e, tuple), isinstance(e, int) -/
  | isi (k : Bool) (e : IE)
  | call (f : Nat) (es : IEs)
  /-- a call of a def with one keyword-only parameter: its value, written or the default -/
  | callk (f : Nat) (es : IEs) (k : IE) (w : Bool)
  | bf (b : Bf) (es : IEs)
  | bm (m : Bm) (o : IE) (es : IEs)
  | set0
  | lrange (es : IEs)
  | ix (o i : IE)
  | slc (o : IE) (lo hi : IO)
  | rev (o : IE)
  | lc (e : IE) (t : IT) (it : II) (c : IO)
  | lc2 (e : IE) (t : IT) (it : II) (t2 : IT) (it2 : II) (c : IO)
  | dc (k v : IE) (t : IT) (it : II)
  | sc (e : IE) (t : IT) (it : II)
inductive IO where
  | none | some (e : IE)
inductive IEs where
  | nil | cons (e : IE) (es : IEs)
/-- what a for walks -/
inductive II where
  | val (e : IE) | range (es : IEs) | enum (e : IE) | zip (a b : IE)
/-- a target -/
inductive IT where
  | nm (i : Nat) | sub (o i : IE) | tup (ts : ITs)
inductive ITs where
  | nil | cons (t : IT) (ts : ITs)
end
/-! ### try: a body of calls, a suite of small stores -/
inductive IX where
  | con (c : D) | call (f : Nat) (es : IEs)
  /-- with a keyword -/
  | callk (f : Nat) (es : IEs) (k : IE)
inductive IB where
  | expr (x : IX) | asg (i : Nat) (x : IX) | asgT (i : Nat) (xs : List IX) | ife (c : IE) (a b : IB)
/-- what stands in a suite: a constant, a field of the error -/
inductive SV where
  | con (c : D) | fld (f : Str)
inductive SE where
  | at_ (v : SV) | tup (vs : List SV) | lst (vs : List SV)
/-- isinstance(e, C), isinstance(e, (C, D)) -/
inductive SQ where
  | isi (d : Nat) | ism (ds : List Nat) | not (a : SQ) | and (a b : SQ)
mutual
inductive SU where
  | asg (i : Nat) (e : SE) | ife (q : SQ) (a : SUs)
inductive SUs where
  | nil | cons (s : SU) (r : SUs)
end
mutual
inductive IS where
  | expr (e : IE)
  | asg (t : IT) (e : IE)
  | par2 (i j : Nat) (e e' : IE)
  | aug (op : Operator) (i : Nat) (e : IE)
  | ret (e : IO)
  | ife (c : IE) (a b : ISs)
  | whl (c : IE) (b : ISs)
  | for_ (t : IT) (it : II) (b : ISs)
  /-- for t in a dict's keys -/
  | forK (t : IT) (i : Nat) (b : ISs)
  | brk | cnt | pas
  /-- a statement that no run comes to -/
  | nev
  /-- raise C(..): C's number, its fields -/
  | rse (c : Nat) (fs : List Str) (es : IEs)
  /-- try: .. except D as slot i: ..; ids: the errors that may come -/
  | try_ (b : IB) (i : Option Nat) (d : Nat) (ids : List Nat) (su : SUs)
inductive ISs where
  | nil | cons (s : IS) (ss : ISs)
end

/-! ### operators -/
def mulOk (i j : Int) : Bool := decide (i.natAbs.log2 + j.natAbs.log2 < 1000000)
def opI (op : Operator) (i j : Int) : Option Int := match op with
  | .Add => some (i + j)
  | .Sub => some (i - j)
  | .Mult => if mulOk i j then some (i * j) else none
  | .FloorDiv => if 0 < j ∧ j.natAbs.log2 < 9000 then some (i / j) else none
  | .Mod => if 0 < j then some (i % j) else none
  | .Pow => if 0 ≤ j ∧ (Builtin.Int.intBits i : Int) * j ≤ 2 ^ 27 then some (i ^ j.toNat) else none
  | _ => none
def ok? {α : Type} (o : Option α) (S : Store) : Out α := match o with
  | some a => .ok a S
  | none => .bad
def newC (c : Cell) (S : Store) : Out D := .ok (.loc S.length) (S ++ [c])
def opD (op : Operator) (a b : D) (S : Store) : Out D := match a, b with
  | .int i, .int j => ok? ((opI op i j).map .int) S
  | .str x, .str y => if op = .Add ∧ x.length + y.length ≤ sizeLine then .ok (.str (x ++ y)) S else .bad
  | .tup x, .tup y => if op = .Add ∧ x.length + y.length ≤ sizeLine then .ok (.tup (x ++ y)) S else .bad
  | .loc m, .loc n => match op, S[m]?, S[n]? with
    | .Add, some (.lst xs), some (.lst ys) => if xs.length + ys.length ≤ sizeLine then newC (.lst (xs ++ ys)) S else .bad
    | _, _, _ => .bad
  | .loc m, .int k => match op, S[m]? with
    | .Mult, some (.lst xs) => if 0 ≤ k ∧ k < 2 ^ 62 ∧ xs.length * k.toNat ≤ sizeLine then newC (.lst (List.replicate k.toNat xs).flatten) S else .bad
    | _, _ => .bad
  | .str x, .int k => if op = .Mult ∧ x.length ≤ 16 ∧ 0 ≤ k ∧ k ≤ 1048576 then .ok (.str (Txt.mul x k)) S else .bad
  | _, _ => .bad

/-- the results of f along a list, if each has one -/
def mapO {α β : Type} (f : α → Option β) : List α → Option (List β)
  | [] => some []
  | a :: as => match f a, mapO f as with
    | some b, some bs => some (b :: bs)
    | _, _ => none
/-- data as the library's trees, at most n deep -/
def toPy (S : Store) : Nat → D → Option PyData
  | _, .non => some .none
  | _, .bl b => some (.bool b)
  | _, .int i => some (.int i)
  | _, .str x => some (.str x)
  | 0, .tup _ | 0, .rol _ | 0, .loc _ => none
  | n + 1, .tup xs => (mapO (toPy S n) xs).map .tuple
  | n + 1, .rol xs => (mapO (toPy S n) xs).map .list
  | n + 1, .loc m => (lstAt S m).bind fun xs => (mapO (toPy S n) xs).map .list
def eqD (a b : D) (S : Store) : Option Bool := match toPy S 8 a, toPy S 8 b with
  | some x, some y => some (PyData.eqv x y)
  | _, _ => none
def strs? : List D → Option (List Str)
  | [] => some []
  | .str x :: r => (strs? r).map (x :: ·)
  | _ :: _ => none
def ints? : List D → Option (List Int)
  | [] => some []
  | .int x :: r => (ints? r).map (x :: ·)
  | _ :: _ => none
def bls? : List D → Option (List Bool)
  | [] => some []
  | .bl x :: r => (bls? r).map (x :: ·)
  | _ :: _ => none
def inStr (x y : Str) : Bool := !(Builtin.Str.occurrences y x 0 y.length 1).isEmpty
def inL (a : D) (xs : List D) (S : Store) : Option Bool := match toPy S 8 a, mapO (toPy S 8) xs with
  | some d, some ds => some (ds.any fun z => PyData.eqv z d)
  | _, _ => none
def inD (a b : D) (S : Store) : Option Bool := match b with
  | .str y => match a with
    | .str x => some (inStr x y)
    | _ => none
  | .tup ys => inL a ys S
  | .rol ys => inL a ys S
  | .loc n => match S[n]? with
    | some (.lst xs) => inL a xs S
    | some (.dct _ kvs) => (D.key? a).map fun k => (lookA k kvs).isSome
    | some (.dtp kvs) => match a with
      | .tup ks => (keys? ks).map fun k => (lookA k kvs).isSome
      | _ => none
    | some (.set ks) => (D.key? a).map fun k => hasK k ks
    | _ => none
  | _ => none
def ltStr (x y : Str) : Bool := decide (x.cps.toList < y.cps.toList)
def cmpD (op : CmpOp) (a b : D) (S : Store) : Option Bool := match op with
  | .Eq => eqD a b S
  | .NotEq => (eqD a b S).map not
  | .Lt => match a, b with
    | .int i, .int j => some (decide (i < j))
    | .str x, .str y => some (ltStr x y)
    | _, _ => none
  | .LtE => match a, b with
    | .int i, .int j => some (decide (i ≤ j))
    | _, _ => none
  | .Gt => match a, b with
    | .int i, .int j => some (decide (j < i))
    | _, _ => none
  | .GtE => match a, b with
    | .int i, .int j => some (decide (j ≤ i))
    | _, _ => none
  | .In => inD a b S
  | .NotIn => (inD a b S).map not
  | .Is => match b with
    | .non => some (decide (a = .non))
    | _ => none
  | .IsNot => match b with
    | .non => some (!decide (a = .non))
    | _ => none
def tru (S : Store) : D → Option Bool
  | .non => some false
  | .bl b => some b
  | .int i => some (i != 0)
  | .str x => if x.length ≤ sizeLine then some (x.length != 0) else none
  | .tup xs | .rol xs => some (!xs.isEmpty)
  | .loc n => match S[n]? with
    | some (.lst xs) => some (!xs.isEmpty)
    | _ => none

/-! ### subscripts, built-in functions, methods -/
def ixAt {α : Type} (xs : List α) (i : Int) : Option α := L2.atI xs i
def ixD (a b : D) (S : Store) : Option D := match a, b with
  | .tup xs, .int i => ixAt xs i
  | .rol xs, .int i => ixAt xs i
  | .str x, .int i => if x.length ≤ sizeLine then (ixAt x.cps.toList i).map fun c => .str ⟨#[c]⟩ else none
  | .loc n, k => match S[n]?, k with
    | some (.lst xs), .int i => ixAt xs i
    | some (.dct _ kvs), k => (D.key? k).bind fun q => lookA q kvs
    | some (.dtp kvs), .tup ks => (keys? ks).bind fun q => lookA q kvs
    | _, _ => none
  | _, _ => none
def cutL {α : Type} (xs : List α) (lo hi : Option Int) : List α := (xs.drop (HT.sIx xs.length 0 lo)).take (HT.sIx xs.length xs.length hi - HT.sIx xs.length 0 lo)
def slD (a : D) (lo hi : Option Int) (S : Store) : Out D := match a with
  | .tup xs => .ok (.tup (cutL xs lo hi)) S
  | .str x => if x.length ≤ sizeLine then .ok (.str ⟨(cutL x.cps.toList lo hi).toArray⟩) S else .bad
  | .loc n => match lstAt S n with
    | some xs => newC (.lst (cutL xs lo hi)) S
    | none => .bad
  | .rol xs => newC (.lst (cutL xs lo hi)) S
  | _ => .bad

/-! ### sorting -/
def alikes (ds : List PyData) : Bool := ds.all fun d => ds.all fun e => PySem.W.alike d e
def sortable (ds : List PyData) : Bool := (ds.all fun d => match d with | .tuple (_ :: _) => true | _ => false) || ds.all fun d => match d with | .none | .tuple _ => false | _ => true
def sortBy (xs : List D) (ds : List PyData) : List D := ((xs.zip ds).mergeSort (PySem.W.dataLe false (·.2))).map (·.1)
def leStr (x y : Str) : Bool := decide (x.cps.toList ≤ y.cps.toList)
def sortS (xs : List Str) : List Str := xs.mergeSort leStr
def strKeys : List Key → Option (List Str)
  | [] => some []
  | .inr x :: r => (strKeys r).map (x :: ·)
  | .inl _ :: _ => none
def sortD (S : Store) (xs : List D) : Option (List D) := match mapO (toPy S 8) xs with
  | some ds => if alikes ds && sortable ds && decide (xs.length ≤ sizeLine) then some (sortBy xs ds) else none
  | none => none

/-! ### what is shown -/
def lenD (S : Store) : D → Option Nat
  | .str x => if x.length ≤ sizeLine then some x.length else none
  | .tup xs | .rol xs => some xs.length
  | .loc n => match S[n]? with
    | some (.lst xs) => some xs.length
    | some (.dct _ kvs) => some kvs.length
    | some (.set ks) => some ks.length
    | _ => none
  | _ => none
def reprOk (d : PyData) : Bool := d.showable && !d.hasDict && decide (d.shown.length ≤ sizeLine)
def reprD (S : Store) (a : D) : Option Str := match toPy S 8 a with
  | some d => if reprOk d then some d.shown else none
  | none => none
def minS : List Str → Option Str
  | [] => none
  | a :: r => some (r.foldl (fun x y => if ltStr y x then y else x) a)
def minI : List Int → Option Int
  | [] => none
  | a :: r => some (r.foldl min a)
def maxI : List Int → Option Int
  | [] => none
  | a :: r => some (r.foldl max a)
def pairsOf : List D → Option (List (Key × D))
  | [] => some []
  | .tup [k, v] :: r => match D.key? k, pairsOf r with
    | some q, some ps => some ((q, v) :: ps)
    | _, _ => none
  | _ :: _ => none
def fromPairs : List (Key × D) → List (Key × D) → List (Key × D)
  | acc, [] => acc
  | acc, (k, v) :: r => fromPairs (putA k v acc) r
def addK (k : Key) (ks : List Key) : List Key := if hasK k ks then ks else ks ++ [k]
def setFrom : List Key → List Key → List Key
  | acc, [] => acc
  | acc, k :: r => setFrom (addK k acc) r
def sortK (d : D) (S : Store) : Out D := match d with
  | .loc n => match S[n]? with
    | some (.dct _ kvs) => match strKeys (kvs.map (·.1)) with
      | some ks => if ks.length < 64 then newC (.lst ((sortS ks).map .str)) S else .bad
      | none => .bad
    | _ => .bad
  | .tup xs => match sortD S xs with
    | some ys => newC (.lst ys) S
    | none => .bad
  | _ => .bad
def sortO (d : D) (S : Store) : Out D := match listOf S d with
  | some xs => match sortD S xs with
    | some ys => newC (.lst ys) S
    | none => .bad
  | none => sortK d S
def bfD (b : Bf) (as : List D) (S : Store) : Out D := match b, as with
  | .len, [d] => ok? ((lenD S d).map fun n : Nat => .int n) S
  | .max2, [.int i, .int j] => .ok (.int (if j > i then j else i)) S
  | .min2, [.int i, .int j] => .ok (.int (if j < i then j else i)) S
  | .max1, [d] => ok? (((seqOf S d).bind ints?).bind fun l => (maxI l).map .int) S
  | .min1, [d] => match seqOf S d with
    | none => .bad
    | some xs => match ints? xs, strs? xs with
      | some l, none => ok? ((minI l).map .int) S
      | none, some l => ok? ((minS l).map .str) S
      | _, _ => .bad
  | .sum, [d] => ok? (((listOf S d).bind ints?).map fun l => .int l.sum) S
  | .abs, [.int i] => .ok (.int (if i < 0 then -i else i)) S
  | .sorted, [d] => sortO d S
  | .tuple, [d] => ok? ((seqOf S d).map .tup) S
  | .list, [d] => match seqOf S d with
    | some xs => newC (.lst xs) S
    | none => .bad
  | .dict, [d] => match (seqOf S d).bind pairsOf with
    | some ps => newC (.dct false (fromPairs [] ps)) S
    | none => .bad
  | .set, [d] => match (seqOf S d).bind keys? with
    | some ks => newC (.set (setFrom [] ks)) S
    | none => .bad
  | .all, [d] => ok? (((listOf S d).bind bls?).map fun l => .bl (l.all id)) S
  | .any, [d] => ok? (((listOf S d).bind bls?).map fun l => .bl (l.any id)) S
  | .repr, [d] => ok? ((reprD S d).map .str) S
  | .str, [.int i] => if i.natAbs.log2 < 1920 then .ok (.str (Str.ofString (toString i))) S else .bad
  | .int, [.bl k] => .ok (.int (if k then 1 else 0)) S
  | .int, [.int i] => .ok (.int i) S
  | _, _ => .bad
def joinS (sep : Str) (l : List Str) : Str := Str.join sep l
def splitS (sep x : Str) : List Str := [x]
def idxOf {α : Type} [DecidableEq α] (a : α) : List α → Option Nat
  | [] => none
  | b :: r => if b = a then some 0 else (idxOf a r).map (· + 1)
def lstDo (o : D) (S : Store) (f : Nat → List D → Out D) : Out D := match o with
  | .loc n => match S[n]? with
    | some (.lst xs) => f n xs
    | _ => .bad
  | _ => .bad
def bmD (m : Bm) (o : D) (as : List D) (S : Store) : Out D := match m, as with
  | .append, [d] => lstDo o S fun n xs => if xs.length < sizeLine then .ok .non (S.set n (.lst (xs ++ [d]))) else .bad
  | .pop, [] => lstDo o S fun n xs => match xs.getLast? with
    | some d => .ok d (S.set n (.lst xs.dropLast))
    | none => .bad
  | .popAt, [.int i] => lstDo o S fun n xs => match L2.ixN xs.length i with
    | some j => match xs[j]? with
      | some d => if i < 2 ^ 63 ∧ -(2 ^ 63) ≤ i then .ok d (S.set n (.lst (xs.eraseIdx j))) else .bad
      | none => .bad
    | none => .bad
  | .index, [.str x] => match seqOf S o with
    | some xs => match strs? xs with
      | some l => ok? ((idxOf x l).map fun j : Nat => .int j) S
      | none => .bad
    | none => .bad
  | .add, [d] => match o with
    | .loc n => match S[n]? with
      | some (.set ks) => match D.key? d with
        | some k => if ks.length + 1 < 1000 then .ok .non (S.set n (.set (addK k ks))) else .bad
        | none => .bad
      | _ => .bad
    | _ => .bad
  | .get2, [k, d] => match o with
    | .loc n => match S[n]? with
      | some (.dct _ kvs) => ok? ((D.key? k).map fun q => (lookA q kvs).getD d) S
      | _ => .bad
    | _ => .bad
  | .insert, [.int i, d] => lstDo o S fun n xs => if 0 ≤ i ∧ i < 2 ^ 63 ∧ xs.length < sizeLine then .ok .non (S.set n (.lst (xs.take i.toNat ++ [d] ++ xs.drop i.toNat))) else .bad
  | .split, [.str b] => match o with
    | .str a => if (b.length == 0) = false ∧ a.length + 2 ≤ sizeLine then newC (.lst ((Txt.split a b).map .str)) S else .bad
    | _ => .bad
  | .join, [d] => match o with
    | .str a => match seqOf S d with
      | some xs => match strs? xs with
        | some l => if (l.map (·.length)).sum + l.length * a.length ≤ 16777216 then .ok (.str (Txt.join a l)) S else .bad
        | none => .bad
      | none => .bad
    | _ => .bad
  | .upper, [] => match o with
    | .str x => if x.length ≤ 5000000 then .ok (.str (Txt.upper x)) S else .bad
    | _ => .bad
  | .lower, [] => match o with
    | .str x => if x.length ≤ 5000000 then .ok (.str (Txt.lower x)) S else .bad
    | _ => .bad
  | _, _ => .bad

/-- what a method's receiver is -/
def bmK (m : Bm) (o : D) (S : Store) : Bool := match o with
  | .str _ => match m with
    | .upper | .lower | .join | .split => true
    | _ => false
  | .tup _ => match m with
    | .index => true
    | _ => false
  | .loc n => match S[n]?, m with
    | some (.lst _), .append | some (.lst _), .pop | some (.lst _), .popAt | some (.lst _), .insert | some (.lst _), .index => true
    | some (.set _), .add => true
    | some (.dct _ _), .get2 => true
    | _, _ => false
  | _ => false

/-! ### the interpreter -/
/-- what a loop walks: its items, and the list that must stay as it is -/
inductive Src where
  | free | lst (n : Nat) (xs : List D) | dct (n : Nat) (kvs : List (Key × D)) | two (a b : Src)
def Src.ok : Src → Store → Bool
  | .free, _ => true
  | .lst n xs, S => decide (lstAt S n = some xs)
  | .dct n kvs, S => decide (S[n]? = some (.dct true kvs))
  | .two a b, S => a.ok S && b.ok S
def keepC (n : Nat) : Store → Store → Bool
  | [], _ => true
  | _ :: _, [] => false
  | c :: T, c0 :: S => (decide (c = c0) || c.cl n) && keepC n T S
/-- behind a call, a turn: what is no longer reached is dropped -/
def gc (S : Store) (d : D) (S' : Store) : Out D :=
  if keepC S.length (S'.take S.length) S then
    if d.cl S.length then .ok d (S'.take S.length)
    else match d with
      | .loc m => match S'[m]? with
        | some c => if c.cl S.length then .ok (.loc S.length) (S'.take S.length ++ [c]) else .ok d S'
        | none => .ok d S'
      | _ => .ok d S'
  else .ok d S'
def rangeL (lo : Int) : Nat → List D
  | 0 => []
  | n + 1 => .int lo :: rangeL (lo + 1) n
def small62 (i : Int) : Bool := decide (-(2 ^ 62) ≤ i ∧ i < 2 ^ 62)
def range3 (lo c : Int) : Nat → List D
  | 0 => []
  | n + 1 => .int lo :: range3 (lo + c) c n
def rangeOf : List D → Option (List D)
  | [.int j] => if small62 j then some (rangeL 0 j.toNat) else none
  | [.int i, .int j] => if small62 i && small62 j then some (rangeL i (j - i).toNat) else none
  | [.int i, .int j, .int c] => if c ≠ 0 ∧ c.natAbs < 1073741824 ∧ Builtin.Range.small i j c = true then some (range3 i c (Builtin.Range.rangeSize i j c).toNat) else none
  | _ => none
def enumL (i : Int) : List D → List D
  | [] => []
  | x :: r => .tup [.int i, x] :: enumL (i + 1) r
def zipL : List D → List D → List D
  | x :: xs, y :: ys => .tup [x, y] :: zipL xs ys
  | _, _ => []
/-- what a loop takes from a value -/
def walkOf (S : Store) : D → Option (List D)
  | .str x => some (x.cps.toList.map fun c => .str ⟨#[c]⟩)
  | d => seqOf S d
def srcOf : D → List D → Src
  | .loc n, xs => .lst n xs
  | _, _ => .free
/-! names and tuples of names -/
mutual
def bindT : IT → D → Env → Option Env
  | .nm i, d, ρ => if i < ρ.length then some (ρ.set i (some d)) else none
  | .sub _ _, _, _ => none
  | .tup ts, d, ρ => match d with
    | .tup ds => bindTs ts ds ρ
    | _ => none
def bindTs : ITs → List D → Env → Option Env
  | .nil, [], ρ => some ρ
  | .cons t ts, d :: ds, ρ => (bindT t d ρ).bind fun ρ' => bindTs ts ds ρ'
  | .nil, _ :: _, _ => none
  | .cons _ _, [], _ => none
end
mutual
def slotsT : IT → List Nat
  | .nm i => [i]
  | .sub _ _ => []
  | .tup ts => slotsTs ts
def slotsTs : ITs → List Nat
  | .nil => []
  | .cons t ts => slotsT t ++ slotsTs ts
end
def slotsTs.len : ITs → Nat
  | .nil => 0
  | .cons _ ts => slotsTs.len ts + 1
def wipeE (ρ : Env) : List Nat → Env
  | [] => ρ
  | v :: vs => (wipeE ρ vs).set v none
/-- a list comprehension's turns; the new list stands at n -/
def loopC (src : Src) (f : D → Store → Out (Option D)) (n : Nat) : List D → Store → Out Unit
  | [], S => if src.ok S then .ok () S else .bad
  | x :: xs, S => if src.ok S then
      match f x S with
      | .ok (some d) S' => (gc S d S').bind fun d' S'' => match S''[n]? with
        | some (.lst acc) => if acc.length < sizeLine then loopC src f n xs (S''.set n (.lst (acc ++ [d']))) else .bad
        | _ => .bad
      | .ok none S' => (gc S .non S').bind fun _ S'' => loopC src f n xs S''
      | _ => .bad
    else .bad
/-- the outer turns of two fors -/
def loopO (src : Src) (f : D → Store → Out Unit) : List D → Store → Out Unit
  | [], S => if src.ok S then .ok () S else .bad
  | x :: xs, S => if src.ok S then
      match f x S with
      | .ok _ S' => loopO src f xs S'
      | _ => .bad
    else .bad
inductive OutS where
  | nx (ρ : Env) (S : Store)
  | rt (d : D) (S : Store)
  | bk (ρ : Env) (S : Store)
  | ct (ρ : Env) (S : Store)
  | ex (c : Nat) (fs : List (Str × D)) (S : Store)
  | bad
def OutS.bind : OutS → (Env → Store → OutS) → OutS
  | .nx ρ S, f => f ρ S
  | o, _ => o
def Out.bindS {α : Type} : Out α → (α → Store → OutS) → OutS
  | .ok a S, f => f a S
  | .ex c fs S, _ => .ex c fs S
  | .bad, _ => .bad
def loopF (src : Src) (f : D → Env → Store → OutS) : List D → Env → Store → OutS
  | [], ρ, S => if src.ok S then .nx ρ S else .bad
  | x :: xs, ρ, S => if src.ok S then
      match f x ρ S with
      | .nx ρ' S' => loopF src f xs ρ' S'
      | .ct ρ' S' => loopF src f xs ρ' S'
      | .bk ρ' S' => .nx ρ' S'
      | o => o
    else .bad
def loopW (c : Env → Store → Out Bool) (f : Env → Store → OutS) : Nat → Env → Store → OutS
  | 0, _, _ => .bad
  | n + 1, ρ, S => (c ρ S).bindS fun b S1 => if b then
      match f ρ S1 with
      | .nx ρ' S' => loopW c f n ρ' S'
      | .ct ρ' S' => loopW c f n ρ' S'
      | .bk ρ' S' => .nx ρ' S'
      | o => o
    else .nx ρ S1
def fuelW : Nat := 1000000000
def truO (d : D) (S : Store) : Out Bool := ok? (tru S d) S
def blO (d : D) (S : Store) : Out Bool := match d with
  | .bl b => .ok b S
  | _ => .bad
def setD (o i d : D) (S : Store) : Out Unit := match o with
  | .loc n => match S[n]?, i with
    | some (.lst xs), .int k => match L2.ixN xs.length k with
      | some j => .ok () (S.set n (.lst (xs.set j d)))
      | none => .bad
    | some (.dct false kvs), k => match D.key? k with
      | some q => if kvs.length < sizeLine then .ok () (S.set n (.dct false (putA q d kvs))) else .bad
      | none => .bad
    | _, _ => .bad
  | _ => .bad
def pairUp : List D → Option (List (Key × D))
  | [] => some []
  | k :: v :: r => match D.key? k, pairUp r with
    | some q, some ps => some ((q, v) :: ps)
    | _, _ => none
  | [_] => none
/-- a set comprehension's store -/
def putS (n : Nat) (y : D) (S : Store) : Out Unit := match D.key? y, S[n]? with
  | some q, some (.set ks) => if ks.length + 1 < 1000 then .ok () (S.set n (.set (addK q ks))) else .bad
  | _, _ => .bad
/-- a dict comprehension's store -/
def putO (n : Nat) (y z : D) (S : Store) : Out Unit := match D.key? y, S[n]? with
  | some q, some (.dct false kvs) => if kvs.length < sizeLine ∧ (kvs.map (·.1)).Nodup then .ok () (S.set n (.dct false (putA q z kvs))) else .bad
  | _, _ => .bad
mutual
def evE (F : Fns) : IE → Env → Store → Out D
  | .var i, ρ, S => match ρ[i]? with
    | some (some d) => .ok d S
    | _ => .bad
  | .con c, _, S => .ok c S
  | .glo _ c, _, S => .ok c S
  | .bin op a b, ρ, S => (evE F a ρ S).bind fun x S1 => (evE F b ρ S1).bind fun y S2 => opD op x y S2
  | .neg a, ρ, S => (evE F a ρ S).bind fun x S1 => match x with
    | .int i => .ok (.int (-i)) S1
    | _ => .bad
  | .cmp op a b, ρ, S => (evE F a ρ S).bind fun x S1 => (evE F b ρ S1).bind fun y S2 => ok? ((cmpD op x y S2).map .bl) S2
  | .chn op op' a b c, ρ, S => (evE F a ρ S).bind fun x S1 => (evE F b ρ S1).bind fun y S2 => (ok? (cmpD op x y S2) S2).bind fun k _ =>
      if k then (evE F c ρ S2).bind fun z S3 => ok? ((cmpD op' y z S3).map .bl) S3 else .ok (.bl false) S2
  | .and a b, ρ, S => (evE F a ρ S).bind fun x S1 => (blO x S1).bind fun k _ => if k then evE F b ρ S1 else .ok (.bl false) S1
  | .or a b, ρ, S => (evE F a ρ S).bind fun x S1 => (blO x S1).bind fun k _ => if k then .ok (.bl true) S1 else evE F b ρ S1
  | .not a, ρ, S => (evE F a ρ S).bind fun x S1 => (blO x S1).bind fun k _ => .ok (.bl (!k)) S1
  | .one a, ρ, S => evE F a ρ S
  | .ite c a b, ρ, S => (evE F c ρ S).bind fun x S1 => (blO x S1).bind fun k _ => if k then evE F a ρ S1 else evE F b ρ S1
  | .tup es, ρ, S => (evEs F es ρ S).bind fun ds S1 => if ds.length ≤ sizeLine then .ok (.tup ds) S1 else .bad
  | .lst es, ρ, S => (evEs F es ρ S).bind fun ds S1 => if ds.length ≤ sizeLine then newC (.lst ds) S1 else .bad
  | .dsp ks vs, ρ, S => (evEs F ks ρ S).bind fun ks S1 => (evEs F vs ρ S1).bind fun vs S2 => match keys? ks with
    | some qs => if qs.length = vs.length then newC (.dct false (fromPairs [] (qs.zip vs))) S2 else .bad
    | none => .bad
  | .dis es, ρ, S => (evEs F es ρ (S ++ [.dct false []])).bind fun ds S2 => match pairUp ds with
    | some ps => if S2[S.length]? = some (.dct false []) ∧ ps.length ≤ 15 then .ok (.loc S.length) (S2.set S.length (.dct false (fromPairs [] ps))) else .bad
    | none => .bad
  | .isi k e, ρ, S => (evE F e ρ S).bind fun x S1 => match k, x with
    | true, .tup _ => .ok (.bl true) S1
    | false, .int _ => .ok (.bl true) S1
    | _, _ => .bad
  | .call f es, ρ, S => (evEs F es ρ S).bind fun ds S1 => F f ds S1
  | .bf b es, ρ, S => (evEs F es ρ S).bind fun ds S1 => bfD b ds S1
  | .bm m o es, ρ, S => (evE F o ρ S).bind fun x S1 => if bmK m x S1 then (evEs F es ρ S1).bind fun ds S2 => bmD m x ds S2 else .bad
  | .set0, _, S => newC (.set []) S
  | .lrange es, ρ, S => (evEs F es ρ S).bind fun ds S1 => match rangeOf ds with
    | some xs => if xs.length ≤ sizeLine then newC (.lst xs) S1 else .bad
    | none => .bad
  | .ix o i, ρ, S => (evE F o ρ S).bind fun x S1 => (evE F i ρ S1).bind fun y S2 => ok? (ixD x y S2) S2
  | .slc o lo hi, ρ, S => (evE F o ρ S).bind fun x S1 => (evO F lo ρ S1).bind fun l S2 => (evO F hi ρ S2).bind fun h S3 => slD x l h S3
  | .callk f es k _, ρ, S => (evEs F es ρ S).bind fun ds S1 => (evE F k ρ S1).bind fun d S2 => F f (ds ++ [d]) S2
  | .rev o, ρ, S => (evE F o ρ S).bind fun x S1 => match x with
    | .loc n => match lstAt S1 n with
      | some xs => newC (.lst xs.reverse) S1
      | none => .bad
    | .tup xs => .ok (.tup xs.reverse) S1
    | _ => .bad
  | .lc e t it c, ρ, S => (evI F it ρ S).bind fun p S1 => (loopC p.2 (fun x S2 => match bindT t x (wipeE ρ (slotsT t)) with
      | some ρ' => (evC F c ρ' S2).bind fun k S3 => if k then (evE F e ρ' S3).bind fun d S4 => .ok (some d) S4 else .ok none S3
      | none => .bad) S1.length p.1 (S1 ++ [.lst []])).bind fun _ S5 => .ok (.loc S1.length) S5
  | .lc2 e t it t2 it2 c, ρ, S => (evI F it ρ S).bind fun p S1 => (loopO p.2 (fun x S2 => match bindT t x (wipeE ρ (slotsT t ++ slotsT t2)) with
      | some ρ' => (evI F it2 ρ' S2).bind fun q S3 => loopC q.2 (fun y S4 => match bindT t2 y (wipeE ρ' (slotsT t2)) with
        | some ρ2 => (evC F c ρ2 S4).bind fun k S5 => if k then (evE F e ρ2 S5).bind fun d S6 => .ok (some d) S6 else .ok none S5
        | none => .bad) S1.length q.1 S3
      | none => .bad) p.1 (S1 ++ [.lst []])).bind fun _ S5 => .ok (.loc S1.length) S5
  | .dc k v t it, ρ, S => (evI F it ρ S).bind fun p S1 => (loopO p.2 (fun x S2 => match bindT t x (wipeE ρ (slotsT t)) with
      | some ρ' => (evE F k ρ' S2).bind fun y S3 => (evE F v ρ' S3).bind fun z S4 => (gc S2 z S4).bind fun z' S5 => putO S1.length y z' S5
      | none => .bad) p.1 (S1 ++ [.dct false []])).bind fun _ S5 => .ok (.loc S1.length) S5
  | .sc e t it, ρ, S => (evI F it ρ S).bind fun p S1 => (loopO p.2 (fun x S2 => match bindT t x (wipeE ρ (slotsT t)) with
      | some ρ' => (evE F e ρ' S2).bind fun y S3 => putS S1.length y S3
      | none => .bad) p.1 (S1 ++ [.set []])).bind fun _ S5 => .ok (.loc S1.length) S5
/-- a part of a slice -/
def evO (F : Fns) : IO → Env → Store → Out (Option Int)
  | .none, _, S => .ok none S
  | .some e, ρ, S => (evE F e ρ S).bind fun x S1 => match x with
    | .int i => .ok (some i) S1
    | _ => .bad
/-- a comprehension's test -/
def evC (F : Fns) : IO → Env → Store → Out Bool
  | .none, _, S => .ok true S
  | .some e, ρ, S => (evE F e ρ S).bind fun x S1 => ok? (tru S1 x) S1
def evEs (F : Fns) : IEs → Env → Store → Out (List D)
  | .nil, _, S => .ok [] S
  | .cons e es, ρ, S => (evE F e ρ S).bind fun d S1 => (evEs F es ρ S1).bind fun ds S2 => .ok (d :: ds) S2
def evI (F : Fns) : II → Env → Store → Out (List D × Src)
  | .val e, ρ, S => (evE F e ρ S).bind fun x S1 => match walkOf S1 x with
    | some xs => .ok (xs, srcOf x xs) S1
    | none => .bad
  | .range es, ρ, S => (evEs F es ρ S).bind fun ds S1 => match rangeOf ds with
    | some xs => .ok (xs, .free) S1
    | none => .bad
  | .enum e, ρ, S => (evE F e ρ S).bind fun x S1 => match seqOf S1 x with
    | some xs => .ok (enumL 0 xs, srcOf x xs) S1
    | none => .bad
  | .zip a b, ρ, S => (evE F a ρ S).bind fun x S1 => (evE F b ρ S1).bind fun y S2 => match seqOf S2 x, seqOf S2 y with
    | some xs, some ys => .ok (zipL xs ys, .two (srcOf x xs) (srcOf y ys)) S2
    | _, _ => .bad
end
mutual
def asgT (F : Fns) : IT → D → Env → Store → Out Env
  | .nm i, d, ρ, S => if i < ρ.length then .ok (ρ.set i (some d)) S else .bad
  | .sub o i, d, ρ, S => (evE F o ρ S).bind fun x S1 => (evE F i ρ S1).bind fun y S2 => (setD x y d S2).bind fun _ S3 => .ok ρ S3
  | .tup ts, d, ρ, S => match d with
    | .tup ds => if ds.length = slotsTs.len ts then asgTs F ts ds ρ S else .bad
    | _ => .bad
def asgTs (F : Fns) : ITs → List D → Env → Store → Out Env
  | .nil, [], ρ, S => .ok ρ S
  | .cons t ts, d :: ds, ρ, S => (asgT F t d ρ S).bind fun ρ' S' => asgTs F ts ds ρ' S'
  | .nil, _ :: _, _, _ => .bad
  | .cons _ _, [], _, _ => .bad
end
/-- a dict, locked and unlocked -/
def lockS (n : Nat) (kvs : List (Key × D)) (S : Store) : Store := S.set n (.dct true kvs)
def unlockO (n : Nat) (kvs : List (Key × D)) (S : Store) (f : Store → OutS) : OutS := if S[n]? = some (.dct true kvs) then f (S.set n (.dct false kvs)) else .bad
def unlock (n : Nat) (kvs : List (Key × D)) : OutS → OutS
  | .nx ρ S => unlockO n kvs S (.nx ρ)
  | .rt d S => unlockO n kvs S (.rt d)
  | .bk ρ S => unlockO n kvs S (.bk ρ)
  | .ct ρ S => unlockO n kvs S (.ct ρ)
  | .ex _ _ _ => .bad
  | .bad => .bad
/-! ### errors -/
/-- what an error's text shows -/
def fmtD : D → Bool
  | .str y => decide (y.length ≤ 5000)
  | .int i => decide (i.natAbs.log2 < 1920) && decide ((Str.ofString (toString i)).length ≤ 5000)
  | _ => false
def xOk (ds : List D) : Bool := ds.all fmtD
/-- the error number c is one of the class number d (0: all) -/
def subB (c d : Nat) : Bool := decide (c = d) || decide (d = 0)
def evIX (F : Fns) (x : IX) (ρ : Env) (S : Store) : Out D := match x with
  | .con c => .ok c S
  | .call f es => match evEs F es ρ S with
    | .ok ds S1 => F f ds S1
    | _ => .bad
  | .callk f es k => match evEs F es ρ S with
    | .ok ds S1 => (match evE F k ρ S1 with
      | .ok d S2 => F f (ds ++ [d]) S2
      | _ => .bad)
    | _ => .bad
def evIXs (F : Fns) : List IX → Env → Store → Out (List D)
  | [], _, S => .ok [] S
  | x :: xs, ρ, S => (evIX F x ρ S).bind fun d S1 => (evIXs F xs ρ S1).bind fun ds S2 => .ok (d :: ds) S2
def evIB (F : Fns) : IB → Env → Store → OutS
  | .expr x, ρ, S => (evIX F x ρ S).bindS fun _ S1 => .nx ρ S1
  | .asg i x, ρ, S => (evIX F x ρ S).bindS fun d S1 => if i < ρ.length then .nx (ρ.set i (some d)) S1 else .bad
  | .asgT i xs, ρ, S => (evIXs F xs ρ S).bindS fun ds S1 => if ds.length ≤ sizeLine ∧ i < ρ.length then .nx (ρ.set i (some (.tup ds))) S1 else .bad
  | .ife c a b, ρ, S => match (evE F c ρ S).bind truO with
    | .ok k S1 => if k then evIB F a ρ S1 else evIB F b ρ S1
    | _ => .bad
def evSV (fs : List (Str × D)) : SV → Option D
  | .con c => some c
  | .fld f => lookA f fs
def evSE (fs : List (Str × D)) (e : SE) (S : Store) : Out D := match e with
  | .at_ v => ok? (evSV fs v) S
  | .tup vs => match mapO (evSV fs) vs with
    | some ds => if ds.length ≤ sizeLine then .ok (.tup ds) S else .bad
    | none => .bad
  | .lst vs => match mapO (evSV fs) vs with
    | some ds => if ds.length ≤ sizeLine then newC (.lst ds) S else .bad
    | none => .bad
def evSQ (c : Nat) : SQ → Bool
  | .isi d => subB c d
  | .ism ds => ds.any (subB c)
  | .not a => !evSQ c a
  | .and a b => evSQ c a && evSQ c b
mutual
def evSU (i : Option Nat) (c : Nat) (fs : List (Str × D)) : SU → Env → Store → OutS
  | .asg j e, ρ, S => (evSE fs e S).bindS fun d S1 => if j < ρ.length ∧ some j ≠ i then .nx (ρ.set j (some d)) S1 else .bad
  | .ife q a, ρ, S => if evSQ c q then evSUs i c fs a ρ S else .nx ρ S
def evSUs (i : Option Nat) (c : Nat) (fs : List (Str × D)) : SUs → Env → Store → OutS
  | .nil, ρ, S => .nx ρ S
  | .cons s r, ρ, S => (evSU i c fs s ρ S).bind fun ρ' S' => evSUs i c fs r ρ' S'
end
/-- the error's slot is free -/
def freeI (i : Option Nat) (ρ : Env) : Bool := match i with
  | some i => decide (ρ[i]? = some none)
  | none => true
def tryO (i : Option Nat) (d : Nat) (ids : List Nat) (su : SUs) (ρ : Env) : OutS → OutS
  | .ex c fs S1 => if (ids.contains c && freeI i ρ) = true then (if subB c d then (match evSUs i c fs su ρ S1 with
      | .nx ρ' S' => if freeI i ρ' then .nx ρ' S' else .bad
      | _ => .bad) else .ex c fs S1) else .bad
  | .nx ρ' S' => .nx ρ' S'
  | _ => .bad
mutual
def evS (F : Fns) : IS → Env → Store → OutS
  | .expr e, ρ, S => (evE F e ρ S).bindS fun _ S1 => .nx ρ S1
  | .asg t e, ρ, S => (evE F e ρ S).bindS fun d S1 => (asgT F t d ρ S1).bindS fun ρ' S' => .nx ρ' S'
  | .par2 i j e e', ρ, S => (evE F e ρ S).bindS fun d S1 => (evE F e' ρ S1).bindS fun d' S2 => if i < ρ.length ∧ j < ρ.length then .nx ((ρ.set i (some d)).set j (some d')) S2 else .bad
  | .aug op i e, ρ, S => match ρ[i]? with
    | some (some (.int a)) => (evE F e ρ S).bindS fun y S1 => match y with
      | .int b => match opI op a b with
        | some r => .nx (ρ.set i (some (.int r))) S1
        | none => .bad
      | _ => .bad
    | _ => .bad
  | .ret e, ρ, S => match e with
    | .none => .rt .non S
    | .some e => (evE F e ρ S).bindS fun d S1 => .rt d S1
  | .ife c a b, ρ, S => ((evE F c ρ S).bind truO).bindS fun k S1 => if k then evSs F a ρ S1 else evSs F b ρ S1
  | .whl c b, ρ, S => loopW (fun ρ S => (evE F c ρ S).bind truO) (evSs F b) fuelW ρ S
  | .for_ t it b, ρ, S => (evI F it ρ S).bindS fun p S1 => loopF p.2 (fun x ρ S => (asgT F t x ρ S).bindS fun ρ' S' => evSs F b ρ' S') p.1 ρ S1
  | .forK t i b, ρ, S => match ρ[i]? with
    | some (some (.loc n)) => match S[n]? with
      | some (.dct false kvs) => unlock n kvs (loopF (.dct n kvs) (fun x ρ S => (asgT F t x ρ S).bindS fun ρ' S' => evSs F b ρ' S') (kvs.map fun p => ofKey p.1) ρ (lockS n kvs S))
      | _ => .bad
    | _ => .bad
  | .brk, ρ, S => .bk ρ S
  | .cnt, ρ, S => .ct ρ S
  | .pas, ρ, S => .nx ρ S
  | .nev, ρ, S => .bad
  | .rse c fs es, ρ, S => (evEs F es ρ S).bindS fun ds S1 => if ds.length = fs.length ∧ xOk ds = true then .ex c (fs.zip ds).reverse S1 else .bad
  | .try_ b i d ids su, ρ, S => tryO i d ids su ρ (evIB F b ρ S)
def evSs (F : Fns) : ISs → Env → Store → OutS
  | .nil, ρ, S => .nx ρ S
  | .cons s ss, ρ, S => (evS F s ρ S).bind fun ρ' S' => evSs F ss ρ' S'
end
/-- a def: its parameters' number, its slots', its defaults, its body -/
structure FDef where
  np : Nat
  ns : Nat
  body : ISs
def gcO (S : Store) : Out D → Out D
  | .ok d S' => gc S d S'
  | o => o
def bodyO : OutS → Out D
  | .nx _ S => .ok .non S
  | .rt d S => .ok d S
  | .ex c fs S => .ex c fs S
  | _ => .bad
def callN (Γ : Nat → Option FDef) : Nat → Fns
  | 0, _, _, _ => .bad
  | k + 1, f, ds, S => match Γ f with
    | some d => if ds.length = d.np then gcO S (bodyO (evSs (callN Γ k) d.body (ds.map some ++ List.replicate (d.ns - d.np) none) S)) else .bad
    | none => .bad
end Iv

/-! Iv2: what a value of the machine stands for; how the store lies in the heap; what a step keeps. -/
namespace Iv
open PySem L2

structure G where
  P : Program
  w : World
  K : PySem.W.Frag
  ca : Nat → Addr

/-- a list that nobody writes -/
def RoL (K : PySem.W.Frag) (H : Hp) (a : Addr) (xs : List V) : Prop := (∃ o, H a = some (.frz o (.lst xs))) ∨
  ∃ (o : Obj) (its : Array Value) (n : Nat), K.lookup a = some o ∧ o.cls = .type "list" ∧ o.dict = none ∧ o.data = .seq its n ∧ its.size ≤ sizeLine ∧ Vals xs its.toList
theorem RoL.sq {K : PySem.W.Frag} {H : Hp} {a : Addr} {xs : List V} (h : RoL K H a xs) : SqL K H a xs := by
  rcases h with h | h
  · exact .inl (.inr h)
  · exact .inr h

/-- a tuple, without a dict of its own -/
def TupAt (H : Hp) (a : Addr) (vs : List V) : Prop := ∃ o : Obj, H a = some (.frz o (.tup vs)) ∧ o.dict = none
theorem TupAt.sq {K : PySem.W.Frag} {H : Hp} {a : Addr} {xs : List V} (h : TupAt H a xs) : SqT K H a xs := by
  obtain ⟨o, h, _⟩ := h
  exact .inl (.inr ⟨o, h⟩)
mutual
def Rep (K : PySem.W.Frag) (μ : List Addr) (H : Hp) : D → V → Prop
  | .non, v => v = .non
  | .bl b, v => v = .bl b
  | .int i, v => v = .int i
  | .str x, v => v = .str x
  | .loc n, v => ∃ a, μ[n]? = some a ∧ v = .ref a
  | .tup ds, v => ∃ a vs, v = .ref a ∧ TupAt H a vs ∧ Reps K μ H ds vs
  | .rol ds, v => ∃ a vs, v = .ref a ∧ RoL K H a vs ∧ Reps K μ H ds vs
def Reps (K : PySem.W.Frag) (μ : List Addr) (H : Hp) : List D → List V → Prop
  | [], vs => vs = []
  | d :: ds, vs => ∃ v r, vs = v :: r ∧ Rep K μ H d v ∧ Reps K μ H ds r
end
section
variable {K : PySem.W.Frag} {μ : List Addr} {H : Hp}
theorem Reps.length : ∀ {ds : List D} {vs : List V}, Reps K μ H ds vs → ds.length = vs.length
  | [], vs, h => by have e : vs = [] := h; subst e; rfl
  | d :: ds, vs, h => by
    obtain ⟨v, r, rfl, _, h2⟩ := h
    exact congrArg (· + 1) (Reps.length h2)
theorem Reps.get : ∀ {ds : List D} {vs : List V} {i : Nat} {d : D}, Reps K μ H ds vs → ds[i]? = some d → ∃ v, vs[i]? = some v ∧ Rep K μ H d v
  | [], _, _, _, _, h => by simp at h
  | d :: ds, _, 0, _, h, e => by
    obtain ⟨v, r, rfl, h1, h2⟩ := h
    cases e
    exact ⟨v, rfl, h1⟩
  | d :: ds, _, i + 1, _, h, e => by
    obtain ⟨v, r, rfl, h1, h2⟩ := h
    exact Reps.get (i := i) h2 e
theorem Reps.getV : ∀ {ds : List D} {vs : List V} {i : Nat} {v : V}, Reps K μ H ds vs → vs[i]? = some v → ∃ d, ds[i]? = some d ∧ Rep K μ H d v
  | [], _, i, _, h, e => by have q : _ = [] := h; subst q; simp at e
  | d :: ds, _, 0, _, h, e => by
    obtain ⟨v, r, rfl, h1, h2⟩ := h
    cases e
    exact ⟨d, rfl, h1⟩
  | d :: ds, _, i + 1, _, h, e => by
    obtain ⟨v, r, rfl, h1, h2⟩ := h
    exact Reps.getV (i := i) h2 e
theorem Reps.app : ∀ {ds es : List D} {vs us : List V}, Reps K μ H ds vs → Reps K μ H es us → Reps K μ H (ds ++ es) (vs ++ us)
  | [], es, vs, us, h, q => by have e : vs = [] := h; subst e; exact q
  | d :: ds, es, vs, us, h, q => by
    obtain ⟨v, r, rfl, h1, h2⟩ := h
    exact ⟨v, r ++ us, rfl, h1, Reps.app h2 q⟩
theorem Reps.take : ∀ {ds : List D} {vs : List V} (n : Nat), Reps K μ H ds vs → Reps K μ H (ds.take n) (vs.take n)
  | _, _, 0, _ => rfl
  | [], vs, n + 1, h => by have e : vs = [] := h; subst e; rfl
  | d :: ds, vs, n + 1, h => by
    obtain ⟨v, r, rfl, h1, h2⟩ := h
    exact ⟨v, r.take n, rfl, h1, Reps.take n h2⟩
theorem Reps.drop : ∀ {ds : List D} {vs : List V} (n : Nat), Reps K μ H ds vs → Reps K μ H (ds.drop n) (vs.drop n)
  | _, _, 0, h => h
  | [], vs, n + 1, h => by have e : vs = [] := h; subst e; rfl
  | d :: ds, vs, n + 1, h => by
    obtain ⟨v, r, rfl, h1, h2⟩ := h
    exact Reps.drop n h2
theorem Reps.one {d : D} {v : V} (h : Rep K μ H d v) : Reps K μ H [d] [v] := ⟨v, [], rfl, h, rfl⟩
theorem Reps.rev : ∀ {ds : List D} {vs : List V}, Reps K μ H ds vs → Reps K μ H ds.reverse vs.reverse
  | [], vs, h => by have e : vs = [] := h; subst e; rfl
  | d :: ds, vs, h => by
    obtain ⟨v, r, rfl, h1, h2⟩ := h
    rw [List.reverse_cons, List.reverse_cons]
    exact Reps.app (Reps.rev h2) (Reps.one h1)
theorem Reps.set : ∀ {ds : List D} {vs : List V} {d : D} {v : V} (i : Nat), Reps K μ H ds vs → Rep K μ H d v → Reps K μ H (ds.set i d) (vs.set i v)
  | [], vs, _, _, _, h, _ => by have e : vs = [] := h; subst e; rfl
  | _ :: ds, vs, d, v, 0, h, q => by
    obtain ⟨v', r, rfl, h1, h2⟩ := h
    exact ⟨v, r, rfl, q, h2⟩
  | _ :: ds, vs, d, v, i + 1, h, q => by
    obtain ⟨v', r, rfl, h1, h2⟩ := h
    exact ⟨v', r.set i v, rfl, h1, Reps.set i h2 q⟩
theorem Reps.erase : ∀ {ds : List D} {vs : List V} (i : Nat), Reps K μ H ds vs → Reps K μ H (ds.eraseIdx i) (vs.eraseIdx i)
  | [], vs, _, h => by have e : vs = [] := h; subst e; rfl
  | _ :: ds, vs, 0, h => by
    obtain ⟨v', r, rfl, h1, h2⟩ := h
    exact h2
  | _ :: ds, vs, i + 1, h => by
    obtain ⟨v', r, rfl, h1, h2⟩ := h
    exact ⟨v', r.eraseIdx i, rfl, h1, Reps.erase i h2⟩
theorem Reps.dropLast {ds : List D} {vs : List V} (h : Reps K μ H ds vs) : Reps K μ H ds.dropLast vs.dropLast := by
  rw [List.dropLast_eq_take, List.dropLast_eq_take, h.length]
  exact h.take _
end

section
variable (g : G)
def CellOk (μ : List Addr) (H : Hp) (a : Addr) : Cell → Prop
  | .lst ds => ∃ vs, H a = some (.lst vs) ∧ Reps g.K μ H ds vs
  | .dct lk kvs => ∃ kvs' : List (L2.Key × V), (if lk then ∃ o, H a = some (.frz o (.dK kvs')) else H a = some (.dK kvs')) ∧ kvs.map (·.1) = kvs'.map (·.1) ∧ Reps g.K μ H (kvs.map (·.2)) (kvs'.map (·.2))
  | .dtp kvs => False ∧ H a = some (.dT []) ∧ Reps g.K μ H (kvs.map (·.2)) []
  | .set ks => H a = some (SetK g.P g.w a (fun k => hasK k ks) ks.length) ∧ ks.Nodup
  | .ins c fs => ∃ dx fs', H a = some (.ins (g.ca c) dx fs') ∧ fs.map (·.1) = fs'.map (·.1) ∧ Reps g.K μ H (fs.map (·.2)) (fs'.map (·.2))
structure Rel (μ : List Addr) (S : Store) (H : Hp) : Prop where
  len : μ.length = S.length
  nd : μ.Nodup
  at_ : ∀ (i : Nat) (a : Addr) (c : Cell), μ[i]? = some a → S[i]? = some c → CellOk g μ H a c
end
/-- behind a step -/
structure Ext (K : PySem.W.Frag) (μ μ' : List Addr) (H H' : Hp) : Prop where
  pre : ∃ ν, μ' = μ ++ ν
  fresh : ∀ b ∈ μ', b ∉ μ → H b = none
  keep : ∀ b o, H b = some o → b ∉ μ → H' b = some o
  frz : ∀ b o u, H b = some (.frz o u) → H' b = some (.frz o u)
section
variable {K : PySem.W.Frag} {μ μ1 μ2 : List Addr} {H H1 H2 : Hp}
theorem Ext.tups (e : Ext K μ μ1 H H1) (b : Addr) (vs : List V) (h : TupAt H b vs) : TupAt H1 b vs := by
  obtain ⟨o, h, d⟩ := h
  exact ⟨o, e.frz b o _ h, d⟩
theorem Ext.rols (e : Ext K μ μ1 H H1) (b : Addr) (vs : List V) (h : RoL K H b vs) : RoL K H1 b vs := by
  rcases h with ⟨o, h⟩ | h
  · exact .inl ⟨o, e.frz b o _ h⟩
  · exact .inr h
theorem Ext.refl : Ext K μ μ H H := ⟨⟨[], by simp⟩, fun b h n => absurd h n, fun _ _ h _ => h, fun _ _ _ h => h⟩
theorem Ext.sub (e : Ext K μ μ1 H H1) {b : Addr} (h : b ∈ μ) : b ∈ μ1 := by
  obtain ⟨ν, rfl⟩ := e.pre
  exact List.mem_append_left _ h
theorem Ext.at_ (e : Ext K μ μ1 H H1) {n : Nat} {a : Addr} (h : μ[n]? = some a) : μ1[n]? = some a := by
  obtain ⟨ν, rfl⟩ := e.pre
  have hn : n < μ.length := (List.getElem?_eq_some_iff.mp h).1
  rw [List.getElem?_append_left hn]
  exact h
theorem Ext.trans (e : Ext K μ μ1 H H1) (f : Ext K μ1 μ2 H1 H2) : Ext K μ μ2 H H2 := by
  have key : ∀ b o, H b = some o → b ∉ μ → b ∉ μ1 := fun b o hb hn hm => by
    rw [e.fresh b hm hn] at hb
    cases hb
  refine ⟨?_, fun b hb hn => ?_, fun b o hb hn => f.keep b o (e.keep b o hb hn) (key b o hb hn), fun b o u h => f.frz b o u (e.frz b o u h)⟩
  · obtain ⟨ν, rfl⟩ := e.pre
    obtain ⟨ν', rfl⟩ := f.pre
    exact ⟨ν ++ ν', by simp⟩
  · by_cases h1 : b ∈ μ1
    · exact e.fresh b h1 hn
    · have q := f.fresh b hb h1
      cases hH : H b with
      | none => rfl
      | some o =>
        rw [e.keep b o hH hn] at q
        cases q
mutual
theorem Rep.mono (e : Ext K μ μ1 H H1) : ∀ {d : D} {v : V}, Rep K μ H d v → Rep K μ1 H1 d v
  | .non, _, h | .bl _, _, h | .int _, _, h | .str _, _, h => h
  | .loc n, _, h => by
    obtain ⟨a, h1, h2⟩ := h
    exact ⟨a, e.at_ h1, h2⟩
  | .tup ds, _, h => by
    obtain ⟨a, vs, h1, h2, h3⟩ := h
    exact ⟨a, vs, h1, e.tups a vs h2, Reps.mono e h3⟩
  | .rol ds, _, h => by
    obtain ⟨a, vs, h1, h2, h3⟩ := h
    exact ⟨a, vs, h1, e.rols a vs h2, Reps.mono e h3⟩
theorem Reps.mono (e : Ext K μ μ1 H H1) : ∀ {ds : List D} {vs : List V}, Reps K μ H ds vs → Reps K μ1 H1 ds vs
  | [], _, h => h
  | d :: ds, _, h => by
    obtain ⟨v, r, h0, h1, h2⟩ := h
    exact ⟨v, r, h0, Rep.mono e h1, Reps.mono e h2⟩
end
mutual
/-- data of the store's first places reach no further -/
theorem Rep.cut {n : Nat} (hn : ∀ i, i < n → μ1[i]? = μ[i]?) : ∀ {d : D} {v : V}, d.cl n = true → Rep K μ H d v → Rep K μ1 H d v
  | .non, _, _, h | .bl _, _, _, h | .int _, _, _, h | .str _, _, _, h => h
  | .loc m, _, c, h => by
    obtain ⟨a, h1, h2⟩ := h
    exact ⟨a, by rw [hn m (of_decide_eq_true c)]; exact h1, h2⟩
  | .tup ds, _, c, h => by
    obtain ⟨a, vs, h1, h2, h3⟩ := h
    exact ⟨a, vs, h1, h2, Reps.cut hn c h3⟩
  | .rol ds, _, c, h => by
    obtain ⟨a, vs, h1, h2, h3⟩ := h
    exact ⟨a, vs, h1, h2, Reps.cut hn c h3⟩
theorem Reps.cut {n : Nat} (hn : ∀ i, i < n → μ1[i]? = μ[i]?) : ∀ {ds : List D} {vs : List V}, D.cls n ds = true → Reps K μ H ds vs → Reps K μ1 H ds vs
  | [], _, _, h => h
  | d :: ds, _, c, h => by
    obtain ⟨v, r, h0, h1, h2⟩ := h
    have q := Bool.and_eq_true_iff.mp c
    exact ⟨v, r, h0, Rep.cut hn q.1 h1, Reps.cut hn q.2 h2⟩
end
mutual
theorem Rep.cl : ∀ {d : D} {v : V}, Rep K μ H d v → d.cl μ.length = true
  | .non, _, _ | .bl _, _, _ | .int _, _, _ | .str _, _, _ => rfl
  | .loc m, _, h => by
    obtain ⟨a, h1, h2⟩ := h
    exact decide_eq_true (List.getElem?_eq_some_iff.mp h1).1
  | .tup ds, _, h => by
    obtain ⟨a, vs, h1, h2, h3⟩ := h
    exact Reps.cl h3
  | .rol ds, _, h => by
    obtain ⟨a, vs, h1, h2, h3⟩ := h
    exact Reps.cl h3
theorem Reps.cl : ∀ {ds : List D} {vs : List V}, Reps K μ H ds vs → D.cls μ.length ds = true
  | [], _, _ => rfl
  | d :: ds, _, h => by
    obtain ⟨v, r, h0, h1, h2⟩ := h
    exact Bool.and_eq_true_iff.mpr ⟨Rep.cl h1, Reps.cl h2⟩
end
end
section
variable {g : G} {μ μ1 : List Addr} {H H1 : Hp} {S S1 : Store} {a : Addr} {c : Cell}
theorem CellOk.some : ∀ {c : Cell}, CellOk g μ H a c → ∃ o, H a = some o
  | .lst _, h => by obtain ⟨_, h, _⟩ := h; exact ⟨_, h⟩
  | .dct true _, h => by obtain ⟨_, ⟨_, h⟩, _⟩ := h; exact ⟨_, h⟩
  | .dct false _, h => by obtain ⟨_, h, _⟩ := h; exact ⟨_, h⟩
  | .dtp _, h => h.1.elim
  | .set _, h => ⟨_, h.1⟩
  | .ins _ _, h => by obtain ⟨_, _, h, _⟩ := h; exact ⟨_, h⟩
/-- the cell as it was, its data as they were -/
theorem CellOk.mono (e : Ext g.K μ μ1 H H1) (k : H1 a = H a) : ∀ {c : Cell}, CellOk g μ H a c → CellOk g μ1 H1 a c
  | .lst _, h => by
    obtain ⟨vs, h1, h2⟩ := h
    exact ⟨vs, k.trans h1, Reps.mono e h2⟩
  | .dct true _, h => by
    obtain ⟨vs, ⟨o, h1⟩, h2, h3⟩ := h
    exact ⟨vs, ⟨o, k.trans h1⟩, h2, Reps.mono e h3⟩
  | .dct false _, h => by
    obtain ⟨vs, h1, h2, h3⟩ := h
    exact ⟨vs, k.trans h1, h2, Reps.mono e h3⟩
  | .dtp _, h => h.1.elim
  | .set _, h => ⟨k.trans h.1, h.2⟩
  | .ins _ _, h => by
    obtain ⟨dx, fs, h1, h2, h3⟩ := h
    exact ⟨dx, fs, k.trans h1, h2, Reps.mono e h3⟩
theorem CellOk.cl : ∀ {c : Cell}, CellOk g μ H a c → c.cl μ.length = true
  | .lst _, h => by obtain ⟨_, _, h⟩ := h; exact h.cl
  | .dct _ _, h => by obtain ⟨_, _, _, h⟩ := h; exact h.cl
  | .dtp _, h => h.1.elim
  | .set _, h => rfl
  | .ins _ _, h => by obtain ⟨_, _, _, _, h⟩ := h; exact h.cl
theorem CellOk.cut {n : Nat} (hn : ∀ i, i < n → μ1[i]? = μ[i]?) : ∀ {c : Cell}, c.cl n = true → CellOk g μ H a c → CellOk g μ1 H a c
  | .lst _, q, h => by
    obtain ⟨vs, h1, h2⟩ := h
    exact ⟨vs, h1, Reps.cut hn q h2⟩
  | .dct _ _, q, h => by
    obtain ⟨vs, h1, h2, h3⟩ := h
    exact ⟨vs, h1, h2, Reps.cut hn q h3⟩
  | .dtp _, q, h => h.1.elim
  | .set _, q, h => h
  | .ins _ _, q, h => by
    obtain ⟨dx, fs, h1, h2, h3⟩ := h
    exact ⟨dx, fs, h1, h2, Reps.cut hn q h3⟩
theorem Rel.ex (r : Rel g μ S H) {n : Nat} {c : Cell} (h : S[n]? = some c) : ∃ a, μ[n]? = some a ∧ CellOk g μ H a c := by
  have hn : n < μ.length := by rw [r.len]; exact (List.getElem?_eq_some_iff.mp h).1
  exact ⟨μ[n], List.getElem?_eq_getElem hn, r.at_ n _ c (List.getElem?_eq_getElem hn) h⟩
theorem Rel.mem (r : Rel g μ S H) {b : Addr} (h : b ∈ μ) : ∃ o, H b = some o := by
  obtain ⟨i, hi, e⟩ := List.mem_iff_getElem.mp h
  have hs : i < S.length := by rw [← r.len]; exact hi
  exact (r.at_ i b S[i] (by rw [← e]; exact List.getElem?_eq_getElem hi) (List.getElem?_eq_getElem hs)).some
theorem Rel.nmem (r : Rel g μ S H) {b : Addr} (h : H b = none) : b ∉ μ := fun hm => by
  obtain ⟨o, e⟩ := r.mem hm
  rw [h] at e
  cases e
theorem frz_upd {p b : Addr} {o : HO} {q : Obj} {u : HO} (h : H b = some (.frz q u)) (n : ∀ q u, H p ≠ some (.frz q u)) : upd H p o b = some (.frz q u) := by
  rw [upd_ne]
  · exact h
  · rintro rfl
    exact n q u h
/-- a new object, no place of the store -/
theorem Ext.obj {K : PySem.W.Frag} {p : Addr} {o : HO} (h : H p = none) : Ext K μ μ H (upd H p o) := by
  refine ⟨⟨[], by simp⟩, fun b hb n => absurd hb n, fun b q hb _ => ?_, fun b q u hb => frz_upd hb fun q u => ?_⟩
  · rw [upd_ne (ne_of_none hb h)]
    exact hb
  · rw [h]
    exact fun e => nomatch e
theorem Rel.obj (r : Rel g μ S H) {p : Addr} {o : HO} (h : H p = none) : Rel g μ S (upd H p o) :=
  ⟨r.len, r.nd, fun i b c hb hc => (r.at_ i b c hb hc).mono (Ext.obj h) (upd_ne fun e => r.nmem h (e ▸ List.mem_of_getElem? hb))⟩
/-- a new place -/
theorem Ext.new {K : PySem.W.Frag} {p : Addr} {o : HO} (h : H p = none) : Ext K μ (μ ++ [p]) H (upd H p o) := by
  have e : Ext K μ μ H (upd H p o) := Ext.obj h
  refine ⟨⟨[p], rfl⟩, fun b hb n => ?_, e.keep, e.frz⟩
  rcases List.mem_append.mp hb with hb | hb
  · exact absurd hb n
  · rw [List.mem_singleton.mp hb]
    exact h
theorem Rel.new (r : Rel g μ S H) {p : Addr} {o : HO} (h : H p = none) (hc : CellOk g (μ ++ [p]) (upd H p o) p c) : Rel g (μ ++ [p]) (S ++ [c]) (upd H p o) := by
  have np : p ∉ μ := r.nmem h
  refine ⟨by simp [r.len], ?_, fun i b c' hb hc' => ?_⟩
  · rw [List.nodup_append]
    exact ⟨r.nd, by simp, fun x hx y hy => by rw [List.mem_singleton.mp hy]; rintro rfl; exact np hx⟩
  · by_cases hi : i < μ.length
    · rw [List.getElem?_append_left hi] at hb
      rw [List.getElem?_append_left (by rw [← r.len]; exact hi)] at hc'
      exact (r.at_ i b c' hb hc').mono (Ext.new h) (upd_ne fun e => np (e ▸ List.mem_of_getElem? hb))
    · have hi' : i = μ.length := by
        have := (List.getElem?_eq_some_iff.mp hb).1
        simp at this
        omega
      subst hi'
      rw [List.getElem?_append_right (Nat.le_refl _), Nat.sub_self] at hb
      rw [r.len, List.getElem?_append_right (Nat.le_refl _), Nat.sub_self] at hc'
      cases hb
      cases hc'
      exact hc
/-- a place written -/
theorem Ext.put {K : PySem.W.Frag} {p : Addr} {o : HO} (hm : p ∈ μ) (n1 : ∀ q u, H p ≠ some (.frz q u)) : Ext K μ μ H (upd H p o) :=
  ⟨⟨[], by simp⟩, fun b hb n => absurd hb n, fun b q hb n => by rw [upd_ne (show b ≠ p from fun e => n (by rw [e]; exact hm))]; exact hb, fun b q u hb => frz_upd hb n1⟩
theorem Rel.put (r : Rel g μ S H) {n : Nat} {p : Addr} {o : HO} (hp : μ[n]? = some p) (n1 : ∀ q u, H p ≠ some (.frz q u))
    (hc : CellOk g μ (upd H p o) p c) : Rel g μ (S.set n c) (upd H p o) := by
  have hm : p ∈ μ := List.mem_of_getElem? hp
  refine ⟨by simp [r.len], r.nd, fun i b c' hb hc' => ?_⟩
  by_cases e : i = n
  · subst e
    rw [hp] at hb
    cases hb
    have hs : i < S.length := by rw [← r.len]; exact (List.getElem?_eq_some_iff.mp hp).1
    rw [List.getElem?_set_self hs] at hc'
    cases hc'
    exact hc
  · rw [List.getElem?_set_ne (Ne.symm e)] at hc'
    refine (r.at_ i b c' hb hc').mono (Ext.put hm n1) (upd_ne fun q => e ?_)
    subst q
    exact (List.getElem?_inj (List.getElem?_eq_some_iff.mp hb).1 r.nd).mp (hb.trans hp.symm)
theorem keepC_at {n : Nat} : ∀ {T S : Store} {i : Nat} {c : Cell}, keepC n T S = true → T[i]? = some c → c.cl n = true ∨ S[i]? = some c
  | [], _, _, _, _, e => by simp at e
  | c :: T, [], _, _, h, _ => by cases h
  | c :: T, c0 :: S, 0, _, h, e => by
    cases e
    have q := (Bool.and_eq_true_iff.mp h).1
    rcases Bool.or_eq_true_iff.mp q with q | q
    · right
      rw [of_decide_eq_true q]
      rfl
    · exact .inl q
  | c :: T, c0 :: S, i + 1, _, h, e => keepC_at (i := i) (Bool.and_eq_true_iff.mp h).2 e
/-- what is no longer reached is forgotten -/
theorem Rel.drop {μ' : List Addr} {H' : Hp} {S' : Store} (r : Rel g μ S H) (r' : Rel g μ' S' H') (e : Ext g.K μ μ' H H') (k : keepC S.length (S'.take S.length) S = true) :
    Rel g μ (S'.take S.length) H' ∧ Ext g.K μ μ H H' := by
  obtain ⟨ν, rfl⟩ := e.pre
  have hl : μ.length ≤ S'.length := by
    have := r'.len
    simp at this
    omega
  have hpre : ∀ i, i < μ.length → μ[i]? = (μ ++ ν)[i]? := fun i hi => (List.getElem?_append_left hi).symm
  refine ⟨⟨by rw [List.length_take, ← r.len]; omega, r.nd, fun i a c hb hc => ?_⟩, ⟨[], by simp⟩, fun b hb n => absurd hb n, e.keep, e.frz⟩
  have hi : i < μ.length := (List.getElem?_eq_some_iff.mp hb).1
  have hc' : S'[i]? = some c := by
    rw [List.getElem?_take_of_lt (by rw [← r.len]; exact hi)] at hc
    exact hc
  have ok := r'.at_ i a c ((hpre i hi).symm.trans hb) hc'
  refine ok.cut (n := S.length) (fun j hj => hpre j (by rw [r.len]; exact hj)) ?_
  rcases keepC_at k hc with q | q
  · exact q
  · have z := (r.at_ i a c hb q).cl
    rw [r.len] at z
    exact z
theorem gc_ok {μ' : List Addr} {H' : Hp} {S' : Store} {d : D} {v : V} {Q : D → Store → List Addr → Prop} (r : Rel g μ S H) (r' : Rel g μ' S' H') (e : Ext g.K μ μ' H H') (h : Rep g.K μ' H' d v)
    (q : ∀ d2 S2 μ2, gc S d S' = .ok d2 S2 → Ext g.K μ μ2 H H' → Rel g μ2 S2 H' → Rep g.K μ2 H' d2 v → Q d2 S2 μ2) : ∃ d2 S2 μ2, gc S d S' = .ok d2 S2 ∧ Q d2 S2 μ2 := by
  by_cases k : keepC S.length (S'.take S.length) S = true
  · obtain ⟨r2, e2⟩ := r.drop r' e k
    obtain ⟨ν, hν⟩ := e.pre
    have hpre : ∀ i, i < S.length → μ[i]? = μ'[i]? := fun i hi => by
      rw [hν, List.getElem?_append_left (by rw [r.len]; exact hi)]
    by_cases c : d.cl S.length = true
    · have eg : gc S d S' = .ok d (S'.take S.length) := by
        unfold gc
        rw [if_pos k, if_pos c]
      exact ⟨_, _, _, eg, q _ _ _ eg e2 r2 (h.cut hpre c)⟩
    · cases d with
      | loc m =>
        obtain ⟨a, ha, rfl⟩ := h
        have hm : m < S'.length := by rw [← r'.len]; exact (List.getElem?_eq_some_iff.mp ha).1
        have ec : S'[m]? = some S'[m] := List.getElem?_eq_getElem hm
        by_cases cc : (S'[m]).cl S.length = true
        · have eg : gc S (.loc m) S' = .ok (.loc S.length) (S'.take S.length ++ [S'[m]]) := by
            unfold gc
            rw [if_pos k, if_neg c]
            simp only [ec]
            rw [if_pos cc]
          have ok := (r'.at_ m a _ ha ec)
          have hml : S.length ≤ m := Nat.not_lt.mp fun z => c (decide_eq_true z)
          have na : a ∉ μ := fun hm2 => by
            obtain ⟨i, hi, ei⟩ := List.mem_iff_getElem.mp hm2
            have hi' : i < S.length := by rw [← r.len]; exact hi
            have e1 : μ'[i]? = some a := by
              rw [← hpre i hi', List.getElem?_eq_getElem hi, ei]
            have e2 := (List.getElem?_inj (List.getElem?_eq_some_iff.mp e1).1 r'.nd).mp (e1.trans ha.symm)
            omega
          have hfr : H a = none := e.fresh a (List.mem_of_getElem? ha) na
          have e3 : Ext g.K μ (μ ++ [a]) H H' := ⟨⟨[a], rfl⟩, fun b hb n => by
            rcases List.mem_append.mp hb with hb | hb
            · exact absurd hb n
            · rw [List.mem_singleton.mp hb]
              exact hfr, e.keep, e.frz⟩
          have hpre2 : ∀ i, i < S.length → (μ ++ [a])[i]? = μ'[i]? := fun i hi => by
            rw [List.getElem?_append_left (by rw [r.len]; exact hi)]
            exact hpre i hi
          have r3 : Rel g (μ ++ [a]) (S'.take S.length ++ [S'[m]]) H' := by
            have hlen := r2.len
            refine ⟨by simp only [List.length_append, List.length_singleton]; omega, ?_, fun i b c' hb hc' => ?_⟩
            · rw [List.nodup_append]
              exact ⟨r.nd, by simp, fun x hx y hy => by rw [List.mem_singleton.mp hy]; rintro rfl; exact na hx⟩
            · by_cases hi : i < μ.length
              · rw [List.getElem?_append_left hi] at hb
                rw [List.getElem?_append_left (by omega)] at hc'
                have ok2 := r2.at_ i b c' hb hc'
                have z := ok2.cl
                exact ok2.cut (n := μ.length) (fun j hj => List.getElem?_append_left hj) z
              · have hi' : i = μ.length := by
                  have := (List.getElem?_eq_some_iff.mp hb).1
                  simp at this
                  omega
                subst hi'
                rw [List.getElem?_append_right (Nat.le_refl _), Nat.sub_self] at hb
                rw [hlen, List.getElem?_append_right (Nat.le_refl _), Nat.sub_self] at hc'
                cases hb
                cases hc'
                exact ok.cut (n := S.length) hpre2 cc
          refine ⟨_, _, _, eg, q _ _ _ eg e3 r3 ⟨a, ?_, rfl⟩⟩
          rw [← r.len, List.getElem?_append_right (Nat.le_refl _), Nat.sub_self]
          rfl
        · have eg : gc S (.loc m) S' = .ok (.loc m) S' := by
            unfold gc
            rw [if_pos k, if_neg c]
            simp only [ec]
            rw [if_neg cc]
          exact ⟨_, _, _, eg, q _ _ _ eg e r' ⟨a, ha, rfl⟩⟩
      | tup xs =>
        have eg : gc S (.tup xs) S' = .ok (.tup xs) S' := by
          unfold gc
          rw [if_pos k, if_neg c]
        exact ⟨_, _, _, eg, q _ _ _ eg e r' h⟩
      | rol xs =>
        have eg : gc S (.rol xs) S' = .ok (.rol xs) S' := by
          unfold gc
          rw [if_pos k, if_neg c]
        exact ⟨_, _, _, eg, q _ _ _ eg e r' h⟩
      | non => exact absurd rfl c
      | bl _ => exact absurd rfl c
      | int _ => exact absurd rfl c
      | str _ => exact absurd rfl c
  · have eg : gc S d S' = .ok d S' := by
      unfold gc
      rw [if_neg k]
    exact ⟨_, _, _, eg, q _ _ _ eg e r' h⟩
end
end Iv

set_option maxRecDepth 10000
/-! Iv3: readings by the interpreter; operators. -/
namespace Iv
open PySem PySem.Spec PyProof.Rows L2

/-- an error behind a raise: its class, its fields -/
def XRep (g : G) (μ : List Addr) (H : Hp) (c : Nat) (fs : List (Str × D)) (cls : Value) (d : Option Addr) : Prop :=
  cls = .ref (g.ca c) ∧ ((fs = [] ∧ d = none) ∨ ∃ dx fs', d = some dx ∧ H dx = some (.xd fs') ∧ fs.map (·.1) = fs'.map (·.1) ∧ Reps g.K μ H (fs.map (·.2)) (fs'.map (·.2)))
def Post (g : G) (E : XK) {α : Type} (o : Out α) (μ : List Addr) (H : Hp) (R : α → Store → List Addr → Hp → Prop) : Prop := match o with
  | .ok a S' => ∀ μ' H', Ext g.K μ μ' H H' → Rel g μ' S' H' → R a S' μ' H'
  | .ex c fs S' => ∀ μ' H' cls d, Ext g.K μ μ' H H' → Rel g μ' S' H' → XRep g μ' H' c fs cls d → E cls d H'
  | .bad => False
section
variable {g : G} {E : XK} {α β : Type} {μ μ1 : List Addr} {H H1 : Hp} {S : Store}
theorem Post.pre {o : Out α} {R : α → Store → List Addr → Hp → Prop} (e : Ext g.K μ μ1 H H1) (p : Post g E o μ H R) : Post g E o μ1 H1 R := by
  cases o with
  | ok a S' => exact fun μ' H' e' r => p μ' H' (e.trans e') r
  | ex c fs S' => exact fun μ' H' cls d e' r x => p μ' H' cls d (e.trans e') r x
  | bad => exact p
theorem Post.imp {o : Out α} {R R' : α → Store → List Addr → Hp → Prop} (p : Post g E o μ H R) (h : ∀ a S' μ' H', Ext g.K μ μ' H H' → Rel g μ' S' H' → R a S' μ' H' → R' a S' μ' H') : Post g E o μ H R' := by
  cases o with
  | ok a S' => exact fun μ' H' e' r => h a S' μ' H' e' r (p μ' H' e' r)
  | ex c fs S' => exact p
  | bad => exact p
theorem Post.bind {o : Out α} {f : α → Store → Out β} {R : β → Store → List Addr → Hp → Prop} (p : Post g E (o.bind f) μ H R) : Post g E o μ H fun a S' μ' H' => Post g E (f a S') μ' H' R := by
  cases o with
  | ok a S' => exact fun μ' H' e' r => Post.pre e' p
  | ex c fs S' => exact p
  | bad => exact p
theorem Post.okI {a : α} {R : α → Store → List Addr → Hp → Prop} (p : Post g E (.ok a S) μ H R) (r : Rel g μ S H) : R a S μ H := p μ H Ext.refl r
theorem Post.ok? {o : Option α} {R : α → Store → List Addr → Hp → Prop} (p : Post g E (ok? o S) μ H R) (r : Rel g μ S H) : ∃ a, o = some a ∧ R a S μ H := by
  cases o with
  | some a => exact ⟨a, rfl, Post.okI p r⟩
  | none => exact p.elim
/-- a new place -/
theorem Post.new {c : Cell} {R : D → Store → List Addr → Hp → Prop} {p : Addr} {o : HO} (q : Post g E (newC c S) μ H R) (r : Rel g μ S H) (h : H p = none) (hc : CellOk g (μ ++ [p]) (upd H p o) p c) :
    R (.loc S.length) (S ++ [c]) (μ ++ [p]) (upd H p o) := q _ _ (Ext.new h) (r.new h hc)
theorem Rep.newLoc {K : PySem.W.Frag} {p : Addr} {n : Nat} (h : n = μ.length) : Rep K (μ ++ [p]) H (.loc n) (.ref p) := by
  subst h
  exact ⟨p, by simp, rfl⟩
end
def Slots (K : PySem.W.Frag) (μ : List Addr) (H : Hp) (σ : L2.St) (ρ : Env) : Prop := σ.length = ρ.length ∧ ∀ (i : Nat) (d : D), ρ[i]? = some (some d) → ∃ v, σ[i]? = some (some v) ∧ Rep K μ H d v
section
variable {K : PySem.W.Frag} {μ μ1 : List Addr} {H H1 : Hp} {σ : L2.St} {ρ : Env}
theorem Slots.mono (s : Slots K μ H σ ρ) (e : Ext K μ μ1 H H1) : Slots K μ1 H1 σ ρ := ⟨s.1, fun i d h => by
  obtain ⟨v, h1, h2⟩ := s.2 i d h
  exact ⟨v, h1, h2.mono e⟩⟩
theorem Slots.set (s : Slots K μ H σ ρ) (i : Nat) {d : D} {v : V} (h : Rep K μ H d v) : Slots K μ H (σ.set i (some v)) (ρ.set i (some d)) := by
  refine ⟨by simpa using s.1, fun j d' hj => ?_⟩
  by_cases e : i = j
  · subst e
    have hi : i < ρ.length := by
      have := (List.getElem?_eq_some_iff.mp hj).1
      simpa using this
    rw [List.getElem?_set_self hi] at hj
    cases hj
    exact ⟨v, List.getElem?_set_self (by rw [s.1]; exact hi), h⟩
  · rw [List.getElem?_set_ne e] at hj
    obtain ⟨v', h1, h2⟩ := s.2 j d' hj
    exact ⟨v', by rw [List.getElem?_set_ne e]; exact h1, h2⟩
end
abbrev gX (X : Cx) (ca : Nat → Addr) : G := ⟨X.prog, X.w, X.K, ca⟩
/-- an expression's reading -/
def tE (g : G) (E : XK) (F : Fns) (e : IE) : TE := fun σ H Q => ∃ μ ρ S, Rel g μ S H ∧ Slots g.K μ H σ ρ ∧ Post g E (evE F e ρ S) μ H fun d _ μ' H' => ∀ v, Rep g.K μ' H' d v → Q v H'
def tEs (g : G) (E : XK) (F : Fns) (es : IEs) : TA := fun σ H Q => ∃ μ ρ S, Rel g μ S H ∧ Slots g.K μ H σ ρ ∧ Post g E (evEs F es ρ S) μ H fun ds _ μ' H' => ∀ vs, Reps g.K μ' H' ds vs → Q vs H'
/-- a step of two data, of any -/
def r2 (g : G) (E : XK) (k : D → D → Store → Out D) : R2 := fun x y H Q => ∃ μ S d d', Rel g μ S H ∧ Rep g.K μ H d x ∧ Rep g.K μ H d' y ∧ Post g E (k d d' S) μ H fun d2 _ μ' H' => ∀ v, Rep g.K μ' H' d2 v → Q v H'
def r1 (g : G) (E : XK) (k : D → Store → Out D) : V → Hp → VK → Prop := fun x H Q => ∃ μ S d, Rel g μ S H ∧ Rep g.K μ H d x ∧ Post g E (k d S) μ H fun d2 _ μ' H' => ∀ v, Rep g.K μ' H' d2 v → Q v H'
def rN (g : G) (E : XK) (k : List D → Store → Out D) : List V → Hp → VK → Prop := fun xs H Q => ∃ μ S ds, Rel g μ S H ∧ Reps g.K μ H ds xs ∧ Post g E (k ds S) μ H fun d2 _ μ' H' => ∀ v, Rep g.K μ' H' d2 v → Q v H'
def r1N (g : G) (E : XK) (k : D → List D → Store → Out D) : V → List V → Hp → VK → Prop := fun x xs H Q => ∃ μ S d ds, Rel g μ S H ∧ Rep g.K μ H d x ∧ Reps g.K μ H ds xs ∧ Post g E (k d ds S) μ H fun d2 _ μ' H' => ∀ v, Rep g.K μ' H' d2 v → Q v H'
section
variable {X : Cx} {g : G} {E : XK} {F : Fns}
theorem PE.imp {e : Expr} {t t' : TE} (h : PE X e t) (i : ∀ σ H Q, t' σ H Q → t σ H Q) : PE X e t' := ⟨fun pins s σ H Q I q => h.run pins s σ H Q I (i σ H Q q)⟩
theorem PT.imp {e : Expr} {t t' : TT} (h : PT X e t) (i : ∀ σ H Q, t' σ H Q → t σ H Q) : PT X e t' := ⟨fun pins s σ H Q I q => h.run pins s σ H Q I (i σ H Q q)⟩
theorem PA.imp {e : List Expr} {t t' : TA} (h : PA X e t) (i : ∀ σ H Q, t' σ H Q → t σ H Q) : PA X e t' := ⟨fun pos pins s σ H Q I q => h.run pos pins s σ H Q I (i σ H Q q)⟩
theorem PS.imp {e : Stmt} {t t' : TS} (h : PS X e t) (i : ∀ D σ H, t' D σ H → t D σ H) : PS X e t' := ⟨fun pins s σ H D I q => h.run pins s σ H D I (i D σ H q)⟩
variable {μ : List Addr} {H : Hp} {S : Store} {σ : L2.St} {ρ : Env} {a b : IE} {es : IEs}
theorem one {α : Type} {k : D → Store → Out α} {R : α → Store → List Addr → Hp → Prop} {Q : VK} (r : Rel g μ S H) (sl : Slots g.K μ H σ ρ) (p : Post g E ((evE F a ρ S).bind k) μ H R)
    (h : ∀ x H1 d S1 μ1, Ext g.K μ μ1 H H1 → Rel g μ1 S1 H1 → Rep g.K μ1 H1 d x → Post g E (k d S1) μ1 H1 R → Q x H1) : tE g E F a σ H Q :=
  ⟨μ, ρ, S, r, sl, p.bind.imp fun d S1 μ1 H1 e r1 q v hv => h v H1 d S1 μ1 e r1 hv q⟩
theorem many {α : Type} {k : List D → Store → Out α} {R : α → Store → List Addr → Hp → Prop} {Q : List V → Hp → Prop} (r : Rel g μ S H) (sl : Slots g.K μ H σ ρ) (p : Post g E ((evEs F es ρ S).bind k) μ H R)
    (h : ∀ x H1 d S1 μ1, Ext g.K μ μ1 H H1 → Rel g μ1 S1 H1 → Reps g.K μ1 H1 d x → Post g E (k d S1) μ1 H1 R → Q x H1) : tEs g E F es σ H Q :=
  ⟨μ, ρ, S, r, sl, p.bind.imp fun d S1 μ1 H1 e r1 q v hv => h v H1 d S1 μ1 e r1 hv q⟩
theorem two {α : Type} {k : D → D → Store → Out α} {R : α → Store → List Addr → Hp → Prop} {Q : V → V → Hp → Prop} (r : Rel g μ S H) (sl : Slots g.K μ H σ ρ)
    (p : Post g E ((evE F a ρ S).bind fun x S1 => (evE F b ρ S1).bind fun y S2 => k x y S2) μ H R)
    (h : ∀ x y H2 d d' S2 μ2, Ext g.K μ μ2 H H2 → Rel g μ2 S2 H2 → Rep g.K μ2 H2 d x → Rep g.K μ2 H2 d' y → Post g E (k d d' S2) μ2 H2 R → Q x y H2) : tE g E F a σ H fun x H1 => tE g E F b σ H1 fun y H2 => Q x y H2 :=
  one r sl p fun x H1 d S1 μ1 e1 r1 hx p1 => one r1 (sl.mono e1) p1 fun y H2 d' S2 μ2 e2 r2 hy p2 => h x y H2 d d' S2 μ2 (e1.trans e2) r2 (hx.mono e2) hy p2

/-! ### names, constants -/
theorem e_var {i : Nat} {x : Str} {pos : Pos} (h : PE X (.Name x pos) (tVar i)) : PE X (.Name x pos) (tE g E F (.var i)) := by
  refine PE.imp h fun σ H Q q => ?_
  obtain ⟨μ, ρ, S, r, sl, p⟩ := q
  have p : Post g E (match ρ[i]? with | some (some d) => Out.ok d S | _ => .bad) μ H _ := p
  split at p
  · rename_i d e
    obtain ⟨v, h1, h2⟩ := sl.2 i d e
    exact ⟨v, h1, p.okI r v h2⟩
  · exact p.elim
theorem e_con {e : Expr} {c : D} {v : V} (h : PE X e (tC v)) (hv : ∀ μ H, Rep g.K μ H c v) : PE X e (tE g E F (.con c)) := by
  refine PE.imp h fun σ H Q q => ?_
  obtain ⟨μ, ρ, S, r, sl, p⟩ := q
  exact Post.okI (show Post g E (.ok c S) μ H _ from p) r v (hv μ H)
theorem e_glo {e : Expr} {x : Str} {c : D} {v : V} (h : PE X e (tC v)) (hv : ∀ μ H, Rep g.K μ H c v) : PE X e (tE g E F (.glo x c)) := by
  refine PE.imp h fun σ H Q q => ?_
  obtain ⟨μ, ρ, S, r, sl, p⟩ := q
  exact Post.okI (show Post g E (.ok c S) μ H _ from p) r v (hv μ H)
end

/-! ### operators -/
section
variable {X : Cx} {ca : Nat → Addr} {E : XK} {F : Fns}
theorem op_of {f : Value → Value → Sem Value} {r : R2} {k : D → D → Store → Out D} {pins : List (Addr × Obj)} {s : Shared} {σ : L2.St} {H : Hp} {x y : V} {v u : Value} {Q : VK} (h : OpR X f r) (I : Inv X pins σ H s) (rx : RelV x v) (ry : RelV y u) (q : r x y H Q) :
    wpAny (model X.prog X.w) X.A (f v u) (EP X pins σ Q) X.xe s := h pins s σ H x y v u Q I rx ry q
theorem int_ops {op : Operator} {i j z : Int} (h : opI op i j = some z) {pins : List (Addr × Obj)} {s : Shared} {σ : L2.St} {H : Hp} {v u : Value} {Q : VK} (I : Inv X pins σ H s) (rx : RelV (.int i) v) (ry : RelV (.int j) u) (q : Q (.int z) H) :
    wpAny (model X.prog X.w) X.A (binaryOp op v u) (EP X pins σ Q) X.xe s := by
  cases op with
  | Add => cases h; exact op_of (k := fun _ _ _ => .bad) op_add I rx ry ⟨i, j, rfl, rfl, q⟩
  | Sub => cases h; exact op_of (k := fun _ _ _ => .bad) op_sub I rx ry ⟨i, j, rfl, rfl, q⟩
  | Mult =>
    have h : (if mulOk i j = true then some (i * j) else none) = some z := h
    by_cases c : mulOk i j = true
    · rw [if_pos c] at h
      cases h
      exact op_of (k := fun _ _ _ => .bad) op_mulW I rx ry ⟨i, j, rfl, rfl, of_decide_eq_true (p := i.natAbs.log2 + j.natAbs.log2 < 1000000) c, q⟩
    · rw [if_neg c] at h
      cases h
  | FloorDiv =>
    have h : (if 0 < j ∧ j.natAbs.log2 < 9000 then some (i / j) else none) = some z := h
    by_cases c : 0 < j ∧ j.natAbs.log2 < 9000
    · rw [if_pos c] at h
      cases h
      exact op_of (k := fun _ _ _ => .bad) op_fdivW I rx ry ⟨i, j, rfl, rfl, c, q⟩
    · rw [if_neg c] at h
      cases h
  | Mod =>
    have h : (if 0 < j then some (i % j) else none) = some z := h
    by_cases c : 0 < j
    · rw [if_pos c] at h
      cases h
      exact op_of (k := fun _ _ _ => .bad) op_mod I rx ry ⟨i, j, rfl, rfl, c, q⟩
    · rw [if_neg c] at h
      cases h
  | Pow =>
    have h : (if 0 ≤ j ∧ (Builtin.Int.intBits i : Int) * j ≤ 2 ^ 27 then some (i ^ j.toNat) else none) = some z := h
    by_cases c : 0 ≤ j ∧ (Builtin.Int.intBits i : Int) * j ≤ 2 ^ 27
    · rw [if_pos c] at h
      cases h
      obtain ⟨t, rfl⟩ := rx
      obtain ⟨t', rfl⟩ := ry
      exact pow_int c.1 c.2 ⟨.int _, H, I.tok _, ⟨_, rfl⟩, q⟩
    · rw [if_neg c] at h
      cases h
  | _ => cases h
end
end Iv

set_option maxRecDepth 10000
/-! Iv4: the steps on data, by value. -/
namespace Iv
open PySem PySem.Spec PyProof.Rows L2
section
variable {K : PySem.W.Frag} {μ μ1 : List Addr} {H H1 : Hp} {g : G} {S : Store}
/-- a new tuple -/
theorem Rep.newTup {p : Addr} {o : Obj} {ds : List D} {vs : List V} (h : Reps K μ H ds vs) (n : H p = none) (d : o.dict = none) : Rep K μ (upd H p (.frz o (.tup vs))) (.tup ds) (.ref p) :=
  ⟨p, vs, rfl, ⟨o, upd_same, d⟩, Reps.mono (Ext.obj n) h⟩
theorem Post.tup {E : XK} {p : Addr} {o : Obj} {ds : List D} {vs : List V} {Q : VK} (q : Post g E (.ok (.tup ds) S) μ H fun d _ μ' H' => ∀ v, Rep g.K μ' H' d v → Q v H') (r : Rel g μ S H) (h : Reps g.K μ H ds vs) (n : H p = none) (d : o.dict = none) :
    Q (.ref p) (upd H p (.frz o (.tup vs))) := q μ _ (Ext.obj n) (r.obj n) _ (Rep.newTup h n d)
abbrev tupO (its : List Value) : Obj := { cls := .type "tuple", data := .seq its.toArray }
theorem tup_laid {X : Cx} {pins : List (Addr × Obj)} {σ : L2.St} {H : Hp} {h : Heap} {g : Array GenState} {d : Drawn} {t : Nat} {os : OsState} {its : List Value} {vs : List V} (I : Inv X pins σ H ⟨h, g, d, t, os⟩) (r : Vals vs its) (z : vs.length ≤ sizeLine) :
    Inv X pins σ (upd H h.objs.size (.frz (tupO its) (.tup vs))) ⟨h.push (tupO its), g, d, t, os⟩ := by
  have I2 := I.laid (t' := t) (a := h.objs.size) (o := .frz (tupO its) (.tup vs)) (h' := h.push (tupO its)) (fun b u q => Heap.get?_push_of_some _ q) (Nat.le_refl _) ⟨Heap.get?_push_size _ rfl, z, its, r, IsTup.new _ _⟩
  exact I2
/-- the end of a step that makes a tuple -/
theorem EP.tup {X : Cx} {ca : Nat → Addr} {E : XK} {pins : List (Addr × Obj)} {σ : L2.St} {H : Hp} {h : Heap} {gs : Array GenState} {d : Drawn} {t : Nat} {os : OsState} {its : List Value} {vs : List V} {ds : List D} {Q : VK} {μ : List Addr} {S : Store} (I : Inv X pins σ H ⟨h, gs, d, t, os⟩) (rv : Vals vs its) (z : vs.length ≤ sizeLine)
    (q : Post (gX X ca) E (.ok (.tup ds) S) μ H fun d _ μ' H' => ∀ v, Rep X.K μ' H' d v → Q v H') (r : Rel (gX X ca) μ S H) (hr : Reps X.K μ H ds vs) : EP X pins σ Q (.ref h.objs.size) ⟨h.push (tupO its), gs, d, t, os⟩ :=
  ⟨.ref h.objs.size, _, tup_laid I rv z, rfl, Post.tup q r hr (I.hok.fresh (Nat.le_refl _)) rfl⟩
theorem Post.lst {E : XK} {p : Addr} {ds : List D} {vs : List V} {Q : VK} (q : Post g E (newC (.lst ds) S) μ H fun d _ μ' H' => ∀ v, Rep g.K μ' H' d v → Q v H') (r : Rel g μ S H) (h : Reps g.K μ H ds vs) (n : H p = none) :
    Q (.ref p) (upd H p (.lst vs)) := (Post.new q r n ⟨vs, upd_same, Reps.mono (Ext.new n) h⟩) _ (Rep.newLoc r.len.symm)
theorem Rel.lstAt (r : Rel g μ S H) {n : Nat} {ds : List D} {v : V} (h : Rep g.K μ H (.loc n) v) (e : S[n]? = some (.lst ds)) : ∃ a vs, μ[n]? = some a ∧ v = .ref a ∧ H a = some (.lst vs) ∧ Reps g.K μ H ds vs := by
  obtain ⟨a, ha, rfl⟩ := h
  obtain ⟨vs, h1, h2⟩ := r.at_ n a _ ha e
  exact ⟨a, vs, ha, rfl, h1, h2⟩
/-- lists and tuples, to be read -/
theorem Rel.seqOf (r : Rel g μ S H) {d : D} {ds : List D} {v : V} (h : Rep g.K μ H d v) (e : seqOf S d = some ds) : ∃ a vs, v = .ref a ∧ (SqL g.K H a vs ∨ SqT g.K H a vs) ∧ Reps g.K μ H ds vs := by
  cases d with
  | tup xs =>
    obtain ⟨a, vs, rfl, h2, h3⟩ := h
    cases e
    exact ⟨a, vs, rfl, .inr h2.sq, h3⟩
  | rol xs =>
    obtain ⟨a, vs, rfl, h2, h3⟩ := h
    cases e
    exact ⟨a, vs, rfl, .inl h2.sq, h3⟩
  | loc n =>
    have e : Iv.lstAt S n = some ds := e
    unfold Iv.lstAt at e
    split at e
    · rename_i xs hs
      cases e
      obtain ⟨a, vs, _, h1, h2, h3⟩ := r.lstAt h hs
      exact ⟨a, vs, h1, .inl (.inl (.inl h2)), h3⟩
    · cases e
  | non => cases e
  | bl _ => cases e
  | int _ => cases e
  | str _ => cases e
end
section
variable {X : Cx} {ca : Nat → Addr} {E : XK} {F : Fns}
theorem op_bin {op : Operator} : OpR X (binaryOp op) (r2 (gX X ca) E (opD op)) := by
  intro pins s σ H x y v u Q I rx ry h
  obtain ⟨μ, S, d, d', r, hx, hy, p⟩ := h
  cases d with
  | int i =>
    obtain rfl : x = .int i := hx
    cases d' with
    | int j =>
      obtain rfl : y = .int j := hy
      replace p : Post _ E (ok? ((opI op i j).map D.int) S) μ H _ := p
      obtain ⟨a, ea, q⟩ := p.ok? r
      obtain ⟨z, ez, rfl⟩ := Option.map_eq_some_iff.mp ea
      exact int_ops ez I rx ry (q _ rfl)
    | _ => exact p.elim
  | str a =>
    obtain rfl : x = .str a := hx
    cases d' with
    | str b =>
      obtain rfl : y = .str b := hy
      replace p : Post _ E (if op = .Add ∧ a.length + b.length ≤ sizeLine then Out.ok (D.str (a ++ b)) S else .bad) μ H _ := p
      split at p
      · rename_i c
        obtain ⟨rfl, c⟩ := c
        exact op_of (k := fun _ _ _ => .bad) op_add_str I rx ry ⟨a, b, rfl, rfl, c, p.okI r _ rfl⟩
      · exact p.elim
    | int k =>
      obtain rfl : y = .int k := hy
      replace p : Post _ E (if op = .Mult ∧ a.length ≤ 16 ∧ 0 ≤ k ∧ k ≤ 1048576 then Out.ok (D.str (Txt.mul a k)) S else .bad) μ H _ := p
      split at p
      · rename_i c
        obtain ⟨rfl, c1, c2, c3⟩ := c
        obtain ⟨t, rfl⟩ := rx
        obtain ⟨t', rfl⟩ := ry
        exact PySem.W.KXi.mul rfl c1 (by omega) (by omega) fun t' tk _ _ => ⟨.str _, H, I.tok _, ⟨_, rfl⟩, p.okI r _ rfl⟩
      · exact p.elim
    | _ => exact p.elim
  | tup a =>
    cases d' with
    | tup b =>
      obtain ⟨q1, xs, rfl, h1, h2⟩ := hx
      obtain ⟨q2, ys, rfl, h3, h4⟩ := hy
      replace p : Post _ E (if op = .Add ∧ a.length + b.length ≤ sizeLine then Out.ok (D.tup (a ++ b)) S else .bad) μ H _ := p
      split at p
      · rename_i c
        obtain ⟨rfl, c⟩ := c
        cases rx
        cases ry
        obtain ⟨its, v1, p1, _⟩ := I.tuple h1.sq
        obtain ⟨its2, v2, p2, _⟩ := I.tuple h3.sq
        have hz : xs.length + ys.length ≤ sizeLine := by rw [← h2.length, ← h4.length]; exact c
        by_cases e1 : xs = []
        · subst e1
          have ea : a = [] := List.eq_nil_of_length_eq_zero h2.length
          subst ea
          cases v1
          exact cat_tup0 p1 p2 ⟨.ref q2, H, I, rfl, p.okI r _ ⟨q2, ys, rfl, h3, h4⟩⟩
        · refine HT.cat_tup p1 p2 (fun z => e1 (v1.nil_iff.mp z)) (fun z => ⟨.ref q1, H, I, rfl, p.okI r _ ⟨q1, xs, rfl, h1, ?_⟩⟩) (fun z => ?_) (by rw [← v1.length, ← v2.length]; exact hz)
          · have e2 : ys = [] := v2.nil_iff.mp z
            subst e2
            have eb : b = [] := List.eq_nil_of_length_eq_zero h4.length
            subst eb
            rw [List.append_nil]
            exact h2
          · obtain ⟨hh, gs, dd, tk, os⟩ := s
            exact EP.tup I (v1.append v2) (by rw [List.length_append]; exact hz) p r (h2.app h4)
      · exact p.elim
    | _ => exact p.elim
  | loc m =>
    cases d' with
    | loc n =>
      replace p : Post _ E (match op, S[m]?, S[n]? with | .Add, some (.lst xs), some (.lst ys) => if xs.length + ys.length ≤ sizeLine then newC (.lst (xs ++ ys)) S else .bad | _, _, _ => .bad) μ H _ := p
      split at p
      · rename_i xs ys e1 e2
        split at p
        · rename_i c
          obtain ⟨a, vs, _, rfl, h1, h2⟩ := r.lstAt hx e1
          obtain ⟨b, us, _, rfl, h3, h4⟩ := r.lstAt hy e2
          exact op_of (k := fun _ _ _ => .bad) op_cat I rx ry ⟨a, b, vs, us, rfl, rfl, h1, h3, by rw [← h2.length, ← h4.length]; exact c, fun t ht => Post.lst p r (h2.app h4) ht⟩
        · exact p.elim
      · exact p.elim
    | int k =>
      obtain rfl : y = .int k := hy
      replace p : Post _ E (match op, S[m]? with | .Mult, some (.lst xs) => if 0 ≤ k ∧ k < 2 ^ 62 ∧ xs.length * k.toNat ≤ sizeLine then newC (.lst (List.replicate k.toNat xs).flatten) S else .bad | _, _ => .bad) μ H _ := p
      split at p
      · rename_i xs e1
        split at p
        · rename_i c
          obtain ⟨a, vs, _, rfl, h1, h2⟩ := r.lstAt hx e1
          have hr : ∀ n : Nat, Reps X.K μ H (List.replicate n xs).flatten (List.replicate n vs).flatten := by
            intro n
            induction n with
            | zero => exact rfl
            | succ n ih =>
              rw [List.replicate_succ, List.replicate_succ, List.flatten_cons, List.flatten_cons]
              exact h2.app ih
          exact op_of (k := fun _ _ _ => .bad) op_rep I rx ry ⟨a, k, vs, rfl, rfl, h1, by omega, by omega, by rw [← h2.length]; exact c.2.2, fun t ht => Post.lst p r (hr _) ht⟩
        · exact p.elim
      · exact p.elim
    | _ => exact p.elim
  | _ => exact p.elim

/-! ### data as trees -/
mutual
theorem dp_of {g : G} {μ : List Addr} {H : Hp} {S : Store} (r : Rel g μ S H) : ∀ (n : Nat) (d : D) (v : V) (y : PyData), toPy S n d = some y → Rep g.K μ H d v → Dp g.K H v y
  | n, .non, v, y, e, h => by
    cases n <;> (simp only [toPy] at e; cases e; cases h; exact .non)
  | n, .bl b, v, y, e, h => by
    cases n <;> (simp only [toPy] at e; cases e; cases h; exact .bl b)
  | n, .int b, v, y, e, h => by
    cases n <;> (simp only [toPy] at e; cases e; cases h; exact .int b)
  | n, .str b, v, y, e, h => by
    cases n <;> (simp only [toPy] at e; cases e; cases h; exact .str b)
  | 0, .tup _, _, _, e, _ => by cases e
  | 0, .rol _, _, _, e, _ => by cases e
  | 0, .loc _, _, _, e, _ => by cases e
  | n + 1, .tup xs, v, y, e, h => by
    simp only [toPy] at e
    obtain ⟨ys, ey, rfl⟩ := Option.map_eq_some_iff.mp e
    obtain ⟨a, vs, rfl, h1, h2⟩ := h
    exact .tup h1.sq (dps_of r n xs vs ys ey h2)
  | n + 1, .rol xs, v, y, e, h => by
    simp only [toPy] at e
    obtain ⟨ys, ey, rfl⟩ := Option.map_eq_some_iff.mp e
    obtain ⟨a, vs, rfl, h1, h2⟩ := h
    exact .lst h1.sq (dps_of r n xs vs ys ey h2)
  | n + 1, .loc m, v, y, e, h => by
    simp only [toPy] at e
    obtain ⟨xs, ex, e⟩ := Option.bind_eq_some_iff.mp e
    obtain ⟨ys, ey, rfl⟩ := Option.map_eq_some_iff.mp e
    unfold Iv.lstAt at ex
    split at ex
    · rename_i zs hs
      cases ex
      obtain ⟨a, vs, _, rfl, h1, h2⟩ := r.lstAt h hs
      exact .lst (.inl (.inl h1)) (dps_of r n xs vs ys ey h2)
    · cases ex
  termination_by n d => (n, sizeOf d)
theorem dps_of {g : G} {μ : List Addr} {H : Hp} {S : Store} (r : Rel g μ S H) : ∀ (n : Nat) (ds : List D) (vs : List V) (ys : List PyData), mapO (toPy S n) ds = some ys → Reps g.K μ H ds vs → DpAll g.K H vs ys
  | n, [], vs, ys, e, h => by
    cases e
    obtain rfl : vs = [] := h
    exact .nil
  | n, d :: ds, vs, ys, e, h => by
    unfold mapO at e
    obtain ⟨v, q, rfl, h1, h2⟩ := h
    split at e
    · rename_i b bs e1 e2
      cases e
      exact .cons (dp_of r n d v b e1 h1) (dps_of r n ds q bs e2 h2)
    · cases e
  termination_by n ds => (n, sizeOf ds)
end
theorem mapO_len {α β : Type} {f : α → Option β} : ∀ {xs : List α} {ys : List β}, mapO f xs = some ys → ys.length = xs.length
  | [], _, e => by cases e; rfl
  | a :: as, ys, e => by
    unfold mapO at e
    split at e
    · rename_i b bs e1 e2
      cases e
      exact congrArg (· + 1) (mapO_len e2)
    · cases e
theorem mapO_mem {α β : Type} {f : α → Option β} : ∀ {xs : List α} {ys : List β} {y : β}, mapO f xs = some ys → y ∈ ys → ∃ x ∈ xs, f x = some y
  | [], _, _, e, h => by cases e; cases h
  | a :: as, ys, y, e, h => by
    unfold mapO at e
    split at e
    · rename_i b bs e1 e2
      cases e
      rcases List.mem_cons.mp h with rfl | h
      · exact ⟨a, List.mem_cons_self, e1⟩
      · obtain ⟨x, hx, q⟩ := mapO_mem e2 h
        exact ⟨x, List.mem_cons_of_mem _ hx, q⟩
    · cases e
mutual
theorem plain_of {S : Store} : ∀ (n : Nat) (d : D) (y : PyData), toPy S n d = some y → y.plain = true ∧ y.depth ≤ n ∧ y.hasDict = false
  | n, .non, y, e => by cases n <;> (simp only [toPy] at e; cases e; exact ⟨rfl, Nat.zero_le _, rfl⟩)
  | n, .bl b, y, e => by cases n <;> (simp only [toPy] at e; cases e; exact ⟨rfl, Nat.zero_le _, rfl⟩)
  | n, .int b, y, e => by cases n <;> (simp only [toPy] at e; cases e; exact ⟨rfl, Nat.zero_le _, rfl⟩)
  | n, .str b, y, e => by cases n <;> (simp only [toPy] at e; cases e; exact ⟨rfl, Nat.zero_le _, rfl⟩)
  | 0, .tup _, _, e => by cases e
  | 0, .rol _, _, e => by cases e
  | 0, .loc _, _, e => by cases e
  | n + 1, .tup xs, y, e => by
    simp only [toPy] at e
    obtain ⟨ys, ey, rfl⟩ := Option.map_eq_some_iff.mp e
    obtain ⟨h1, h2, h3⟩ := plains_of n xs ys ey
    exact ⟨h1, Nat.succ_le_succ h2, h3⟩
  | n + 1, .rol xs, y, e => by
    simp only [toPy] at e
    obtain ⟨ys, ey, rfl⟩ := Option.map_eq_some_iff.mp e
    obtain ⟨h1, h2, h3⟩ := plains_of n xs ys ey
    exact ⟨h1, Nat.succ_le_succ h2, h3⟩
  | n + 1, .loc m, y, e => by
    simp only [toPy] at e
    obtain ⟨xs, ex, e⟩ := Option.bind_eq_some_iff.mp e
    obtain ⟨ys, ey, rfl⟩ := Option.map_eq_some_iff.mp e
    obtain ⟨h1, h2, h3⟩ := plains_of n xs ys ey
    exact ⟨h1, Nat.succ_le_succ h2, h3⟩
  termination_by n d => (n, sizeOf d)
theorem plains_of {S : Store} : ∀ (n : Nat) (ds : List D) (ys : List PyData), mapO (toPy S n) ds = some ys → PyData.plainAll ys = true ∧ PyData.depthAll ys ≤ n ∧ PyData.hasDictAll ys = false
  | n, [], ys, e => by cases e; exact ⟨rfl, Nat.zero_le _, rfl⟩
  | n, d :: ds, ys, e => by
    unfold mapO at e
    split at e
    · rename_i b bs e1 e2
      cases e
      obtain ⟨h1, h2, h3⟩ := plain_of n d b e1
      obtain ⟨k1, k2, k3⟩ := plains_of n ds bs e2
      refine ⟨Bool.and_eq_true_iff.mpr ⟨h1, k1⟩, Nat.max_le.mpr ⟨h2, k2⟩, ?_⟩
      show (b.hasDict || PyData.hasDictAll bs) = false
      rw [h3, k3]
      rfl
    · cases e
  termination_by n ds => (n, sizeOf ds)
end
section
variable {X : Cx} {ca : Nat → Addr} {E : XK}
theorem fin_b {pins : List (Addr × Obj)} {σ : L2.St} {H : Hp} {s : Shared} {Q : VK} {k : Bool} (I : Inv X pins σ H s) (q : Q (.bl k) H) : EP X pins σ Q (.bool k) s := ⟨.bl k, H, I, rfl, q⟩
/-- a test of two data by its trees -/
theorem op_cmpEq (hu : X.A.units + 100 < cLine) : OpR X (compareOp .Eq) (r2 (gX X ca) E fun a b S => ok? ((eqD a b S).map .bl) S) := by
  intro pins s σ H x y v u Q I rx ry h
  obtain ⟨μ, S, d, d', r, hx, hy, p⟩ := h
  obtain ⟨z, ez, q⟩ := p.ok? r
  obtain ⟨k, ek, rfl⟩ := Option.map_eq_some_iff.mp ez
  unfold eqD at ek
  split at ek
  · rename_i a b e1 e2
    cases ek
    obtain ⟨as, r1⟩ := Dp.reads I a x v (dp_of r 8 d x a e1 hx) rx
    obtain ⟨bs, r2⟩ := Dp.reads I b y u (dp_of r 8 d' y b e2 hy) ry
    obtain ⟨p1, d1, _⟩ := plain_of 8 d a e1
    obtain ⟨p2, d2, _⟩ := plain_of 8 d' b e2
    exact SeqAt.eq_plain r1 r2 p1 p2 (by have := Nat.min_le_left a.depth b.depth; omega) (fin_b I (q _ rfl))
  · cases ek
theorem op_cmpNe (hu : X.A.units + 100 < cLine) : OpR X (compareOp .NotEq) (r2 (gX X ca) E fun a b S => ok? (((eqD a b S).map not).map .bl) S) := by
  intro pins s σ H x y v u Q I rx ry h
  obtain ⟨μ, S, d, d', r, hx, hy, p⟩ := h
  obtain ⟨z, ez, q⟩ := p.ok? r
  obtain ⟨k0, ek0, rfl⟩ := Option.map_eq_some_iff.mp ez
  obtain ⟨k, ek, rfl⟩ := Option.map_eq_some_iff.mp ek0
  clear ek0
  unfold eqD at ek
  split at ek
  · rename_i a b e1 e2
    cases ek
    obtain ⟨as, r1⟩ := Dp.reads I a x v (dp_of r 8 d x a e1 hx) rx
    obtain ⟨bs, r2⟩ := Dp.reads I b y u (dp_of r 8 d' y b e2 hy) ry
    obtain ⟨p1, d1, _⟩ := plain_of 8 d a e1
    obtain ⟨p2, d2, _⟩ := plain_of 8 d' b e2
    exact SeqAt.ne_plain r1 r2 p1 p2 (by have := Nat.min_le_left a.depth b.depth; omega) (fin_b I (q _ rfl))
  · cases ek
end
end
end Iv

set_option maxRecDepth 10000
/-! Iv5: more steps on data: in, the order, is None; subscripts, slices. -/
namespace Iv
open PySem PySem.Spec PyProof.Rows L2
section
variable {K : PySem.W.Frag} {μ : List Addr} {H : Hp} {g : G} {S : Store} {E : XK}
theorem key_rep {d : D} {k : Key} {v : V} (e : D.key? d = some k) (h : Rep K μ H d v) : v = kV k := by
  cases d with
  | int i => cases e; exact h
  | str x => cases e; exact h
  | _ => cases e
theorem keys_rep : ∀ {ds : List D} {ks : List Key} {vs : List V}, keys? ds = some ks → Reps K μ H ds vs → vs = ks.map kV
  | [], ks, vs, e, h => by cases e; exact h
  | d :: ds, ks, vs, e, h => by
    unfold keys? at e
    obtain ⟨v, r, rfl, h1, h2⟩ := h
    split at e
    · rename_i k ks' e1 e2
      cases e
      rw [key_rep e1 h1, keys_rep e2 h2]
      rfl
    · cases e
theorem look_rep {κ : Type} [DecidableEq κ] : ∀ {kvs : List (κ × D)} {kvs' : List (κ × V)} {k : κ}, kvs.map (·.1) = kvs'.map (·.1) → Reps K μ H (kvs.map (·.2)) (kvs'.map (·.2)) →
    match lookA k kvs, valV kvs' k with
    | some d, some v => Rep K μ H d v
    | none, none => True
    | _, _ => False
  | [], [], k, _, _ => trivial
  | [], _ :: _, _, e, _ => by cases e
  | _ :: _, [], _, e, _ => by cases e
  | (a, d) :: r, (b, v) :: r', k, e, h => by
    obtain ⟨e1, e2⟩ := List.cons.inj e
    obtain ⟨v', q, ev, h1, h2⟩ := h
    obtain ⟨rfl, rfl⟩ := List.cons.inj ev
    have e1 : a = b := e1
    subst e1
    unfold lookA
    by_cases c : a = k
    · rw [if_pos c, valV_pos (p := (a, v)) c]
      exact h1
    · rw [if_neg c, valV_neg (p := (a, v)) c]
      exact look_rep e2 h2
theorem look_some {κ : Type} [DecidableEq κ] {kvs : List (κ × D)} {kvs' : List (κ × V)} {k : κ} (e : kvs.map (·.1) = kvs'.map (·.1)) (h : Reps K μ H (kvs.map (·.2)) (kvs'.map (·.2))) : (lookA k kvs).isSome = (valV kvs' k).isSome := by
  have q := look_rep (k := k) e h
  cases h1 : lookA k kvs <;> cases h2 : valV kvs' k <;> (rw [h1, h2] at q) <;> first | rfl | exact q.elim
theorem put_rep {κ : Type} [DecidableEq κ] {d : D} {v : V} {k : κ} (hd : Rep K μ H d v) : ∀ {kvs : List (κ × D)} {kvs' : List (κ × V)}, kvs.map (·.1) = kvs'.map (·.1) → Reps K μ H (kvs.map (·.2)) (kvs'.map (·.2)) → (kvs'.map (·.1)).Nodup →
    (putA k d kvs).map (·.1) = (putK kvs' k v).map (·.1) ∧ Reps K μ H ((putA k d kvs).map (·.2)) ((putK kvs' k v).map (·.2))
  | [], [], _, _, _ => ⟨rfl, Reps.one hd⟩
  | [], _ :: _, e, _, _ => by cases e
  | _ :: _, [], e, _, _ => by cases e
  | (a, d') :: r, (b, v') :: r', e, h, nd => by
    obtain ⟨e1, e2⟩ := List.cons.inj e
    obtain ⟨v2, q, ev, h1, h2⟩ := h
    obtain ⟨rfl, rfl⟩ := List.cons.inj ev
    have e1 : a = b := e1
    subst e1
    obtain ⟨na, nd'⟩ := List.nodup_cons.mp nd
    unfold putA putK
    by_cases c : a = k
    · subst c
      have hid : (r'.map fun kv => if kv.1 = a then (kv.1, v) else kv) = r' := by
        have : ∀ kv ∈ r', (if kv.1 = a then (kv.1, v) else kv) = kv := fun kv hk => by
          rw [if_neg]
          intro z
          exact na (z ▸ List.mem_map_of_mem (f := (·.1)) hk)
        exact (List.map_congr_left this).trans (List.map_id _)
      rw [if_pos rfl, if_pos (by simp)]
      simp only [List.map_cons, if_true]
      rw [hid]
      exact ⟨by rw [e2], ⟨v, _, rfl, hd, h2⟩⟩
    · obtain ⟨i1, i2⟩ := put_rep (k := k) hd e2 h2 nd'
      unfold putK at i1 i2
      rw [if_neg c]
      have ea : (((a, v') :: r').any fun kv => decide (kv.1 = k)) = r'.any fun kv => decide (kv.1 = k) := by
        rw [List.any_cons]
        simp [c]
      rw [ea]
      by_cases c2 : (r'.any fun kv => decide (kv.1 = k)) = true
      · rw [if_pos c2] at i1 i2 ⊢
        simp only [List.map_cons, c, if_false] at i1 i2 ⊢
        exact ⟨by rw [i1], ⟨v', _, rfl, h1, i2⟩⟩
      · rw [if_neg c2] at i1 i2 ⊢
        simp only [List.map_cons, List.cons_append] at i1 i2 ⊢
        exact ⟨by rw [i1], ⟨v', _, rfl, h1, i2⟩⟩
end
section
variable {X : Cx} {ca : Nat → Addr} {E : XK}
/-- x in a list, a tuple -/
theorem in_seq (hu : X.A.units + 100 < cLine) {neg : Bool} {pins : List (Addr × Obj)} {s : Shared} {σ : L2.St} {H : Hp} {x y : V} {v u : Value} {Q : VK} {μ : List Addr} {S : Store} {d d' : D} {xs : List D} {k : Bool} (I : Inv X pins σ H s) (rx : RelV x v) (ry : RelV y u)
    (r : Rel (gX X ca) μ S H) (hx : Rep X.K μ H d x) (hy : Rep X.K μ H d' y) (hs : seqOf S d' = some xs) (e : inL d xs S = some k) (q : Q (.bl (if neg then !k else k)) H) :
    wpAny (model X.prog X.w) X.A (compareOp (if neg then .NotIn else .In) v u) (EP X pins σ Q) X.xe s := by
  unfold inL at e
  split at e
  · rename_i a b e1 e2
    cases e
    obtain ⟨as, r1⟩ := Dp.reads I a x v (dp_of r 8 d x a e1 hx) rx
    obtain ⟨p1, d1, _⟩ := plain_of 8 d a e1
    obtain ⟨p2, d2, _⟩ := plains_of 8 xs b e2
    have hm : X.A.units + 1 + min (PyData.depthAll b) a.depth < cLine := by have := Nat.min_le_right (PyData.depthAll b) a.depth; omega
    obtain ⟨p, vs, rfl, h1, h2⟩ := r.seqOf hy hs
    cases ry
    rcases h1 with h1 | h1
    · obtain ⟨bs, r2⟩ := Dp.reads I (.list b) _ _ (.lst h1 (dps_of r 8 xs vs b e2 h2)) (show RelV (.ref p) (.ref p) from rfl)
      cases neg with
      | true => exact SeqAt.notIn_list_data r2 r1 p2 p1 hm (fin_b I q)
      | false => exact SeqAt.in_list_data r2 r1 p2 p1 hm (fin_b I q)
    · obtain ⟨bs, r2⟩ := Dp.reads I (.tuple b) _ _ (.tup h1 (dps_of r 8 xs vs b e2 h2)) (show RelV (.ref p) (.ref p) from rfl)
      cases neg with
      | true => exact SeqAt.notIn_tuple_data r2 r1 p2 p1 hm (fin_b I q)
      | false => exact SeqAt.in_tuple_data r2 r1 p2 p1 hm (fin_b I q)
  · cases e
theorem in_any (hu : X.A.units + 100 < cLine) {neg : Bool} {pins : List (Addr × Obj)} {s : Shared} {σ : L2.St} {H : Hp} {x y : V} {v u : Value} {Q : VK} {μ : List Addr} {S : Store} {d d' : D} {k : Bool} (I : Inv X pins σ H s) (rx : RelV x v) (ry : RelV y u)
    (r : Rel (gX X ca) μ S H) (hx : Rep X.K μ H d x) (hy : Rep X.K μ H d' y) (e : inD d d' S = some k) (q : Q (.bl (if neg then !k else k)) H) :
    wpAny (model X.prog X.w) X.A (compareOp (if neg then .NotIn else .In) v u) (EP X pins σ Q) X.xe s := by
  have dctcase : ∀ (b : Addr) (yk : V) (o : Option V), y = .ref b → DGet H b x o → o.isSome = k → wpAny (model X.prog X.w) X.A (compareOp (if neg then .NotIn else .In) v u) (EP X pins σ Q) X.xe s := by
    intro b yk o hyb gt ho
    subst hyb
    cases ry
    cases neg with
    | true => exact d_notIn (by omega) I gt rx fun s' I' => fin_b I' (by rw [ho]; exact q)
    | false => exact d_in (by omega) I gt rx fun s' I' => fin_b I' (by rw [ho]; exact q)
  cases d' with
  | tup xs => exact in_seq hu I rx ry r hx hy rfl e q
  | rol xs => exact in_seq hu I rx ry r hx hy rfl e q
  | str z =>
    obtain rfl : y = .str z := hy
    cases d with
    | str a =>
      obtain rfl : x = .str a := hx
      cases e
      cases neg with
      | true => exact op_of (k := fun _ _ _ => .bad) op_notin_str I rx ry ⟨a, z, rfl, rfl, q⟩
      | false => exact op_of (k := fun _ _ _ => .bad) op_in_str I rx ry ⟨a, z, rfl, rfl, q⟩
    | _ => cases e
  | loc n =>
    simp only [inD] at e
    split at e
    · rename_i xs hs
      exact in_seq hu I rx ry r hx hy (show Iv.lstAt S n = some xs by unfold Iv.lstAt; rw [hs]) e q
    · rename_i lk kvs hs
      obtain ⟨kk, ek, rfl⟩ := Option.map_eq_some_iff.mp e
      obtain ⟨b, hb, rfl⟩ := hy
      obtain ⟨kvs', h1, h2, h3⟩ := r.at_ n b _ hb hs
      refine dctcase b x (valV kvs' kk) rfl (.inl ⟨kvs', kk, ?_, key_rep ek hx, rfl⟩) (look_some h2 h3).symm
      cases lk with
      | true => exact .inr h1
      | false => exact .inl h1
    · rename_i kvs hs
      split at e
      · rename_i ks
        obtain ⟨kk, ek, rfl⟩ := Option.map_eq_some_iff.mp e
        obtain ⟨b, hb, rfl⟩ := hy
        exact (r.at_ n b _ hb hs).1.elim
      · cases e
    · rename_i ks hs
      obtain ⟨kk, ek, rfl⟩ := Option.map_eq_some_iff.mp e
      obtain ⟨b, hb, rfl⟩ := hy
      obtain ⟨h1, h2⟩ := r.at_ n b _ hb hs
      cases neg with
      | true => exact op_of (k := fun _ _ _ => .bad) or_snotinK I rx ry ⟨kk, b, _, _, key_rep ek hx, rfl, h1, q⟩
      | false => exact op_of (k := fun _ _ _ => .bad) or_sinK I rx ry ⟨kk, b, _, _, key_rep ek hx, rfl, h1, q⟩
    · cases e
  | _ => cases e
end
end Iv

set_option maxRecDepth 10000
/-! Iv6: comparisons, subscripts, slices of any data. -/
namespace Iv
open PySem PySem.Spec PyProof.Rows L2
section
variable {X : Cx} {ca : Nat → Addr} {E : XK}
theorem in_op (hu : X.A.units + 100 < cLine) {neg : Bool} : OpR X (compareOp (if neg then .NotIn else .In)) (r2 (gX X ca) E fun a b S => ok? (((inD a b S).map fun k => if neg then !k else k).map .bl) S) := by
  intro pins s σ H x y v u Q I rx ry h
  obtain ⟨μ, S, d, d', r, hx, hy, p⟩ := h
  obtain ⟨z, ez, q⟩ := p.ok? r
  obtain ⟨k0, ek0, rfl⟩ := Option.map_eq_some_iff.mp ez
  obtain ⟨k, ek, rfl⟩ := Option.map_eq_some_iff.mp ek0
  exact in_any hu I rx ry r hx hy ek (q _ rfl)
theorem ok_bl {o : Option Bool} {g : G} {μ : List Addr} {H : Hp} {S : Store} {Q : VK} (p : Post g E (ok? (o.map .bl) S) μ H fun d2 _ μ' H' => ∀ v, Rep g.K μ' H' d2 v → Q v H') (r : Rel g μ S H) : ∃ k, o = some k ∧ Q (.bl k) H := by
  obtain ⟨z, ez, q⟩ := p.ok? r
  obtain ⟨k, ek, rfl⟩ := Option.map_eq_some_iff.mp ez
  exact ⟨k, ek, q _ rfl⟩
theorem two_ints {d d' : D} {f : Int → Int → Bool} {k : Bool} (e : (match d, d' with | .int i, .int j => some (f i j) | _, _ => none) = some k) : ∃ i j, d = .int i ∧ d' = .int j ∧ k = f i j := by
  cases d <;> cases d' <;> first | exact ⟨_, _, rfl, rfl, (Option.some.inj e).symm⟩ | cases e
theorem two_lt {d d' : D} {k : Bool} (e : (match d, d' with | .int i, .int j => some (decide (i < j)) | .str a, .str b => some (ltStr a b) | _, _ => none) = some k) :
    (∃ i j, d = .int i ∧ d' = .int j ∧ k = decide (i < j)) ∨ ∃ a b, d = .str a ∧ d' = .str b ∧ k = ltStr a b := by
  cases d <;> cases d' <;> first | exact .inl ⟨_, _, rfl, rfl, (Option.some.inj e).symm⟩ | exact .inr ⟨_, _, rfl, rfl, (Option.some.inj e).symm⟩ | cases e
theorem two_is {d d' : D} {k f : Bool} (e : (match d' with | .non => some f | _ => none) = some k) : d' = .non ∧ k = f := by
  cases d' <;> first | exact ⟨rfl, (Option.some.inj e).symm⟩ | cases e
theorem op_ord {op : CmpOp} {f : Int → Int → Bool} (hr : OpR X (compareOp op) (rI0 fun i j => .bl (f i j))) {pins : List (Addr × Obj)} {s : Shared} {σ : L2.St} {H : Hp} {x y : V} {v u : Value} {Q : VK} {μ : List Addr} {d d' : D} {k : Bool} (I : Inv X pins σ H s) (rx : RelV x v) (ry : RelV y u)
    (hx : Rep X.K μ H d x) (hy : Rep X.K μ H d' y) (e : ∃ i j, d = .int i ∧ d' = .int j ∧ k = f i j) (q : Q (.bl k) H) : wpAny (model X.prog X.w) X.A (compareOp op v u) (EP X pins σ Q) X.xe s := by
  obtain ⟨i, j, rfl, rfl, rfl⟩ := e
  obtain rfl : x = .int i := hx
  obtain rfl : y = .int j := hy
  exact hr pins s σ H _ _ v u Q I rx ry ⟨i, j, rfl, rfl, q⟩
theorem non_iff {μ : List Addr} {H : Hp} {d : D} {x : V} (hx : Rep X.K μ H d x) : x = .non ↔ d = .non := by
  constructor
  · intro e
    subst e
    cases d with
    | non => rfl
    | bl b => cases hx
    | int b => cases hx
    | str b => cases hx
    | tup b => obtain ⟨_, _, z, _⟩ := hx; cases z
    | rol b => obtain ⟨_, _, z, _⟩ := hx; cases z
    | loc b => obtain ⟨_, _, z⟩ := hx; cases z
  · intro e
    subst e
    exact hx
theorem op_cmp (hu : X.A.units + 100 < cLine) {op : CmpOp} : OpR X (compareOp op) (r2 (gX X ca) E fun a b S => ok? ((cmpD op a b S).map .bl) S) := by
  intro pins s σ H x y v u Q I rx ry h
  have h0 := h
  obtain ⟨μ, S, d, d', r, hx, hy, p⟩ := h
  obtain ⟨k, ek, q⟩ := ok_bl p r
  clear p
  cases op with
  | Eq => exact op_cmpEq hu pins s σ H x y v u Q I rx ry h0
  | NotEq => exact op_cmpNe hu pins s σ H x y v u Q I rx ry h0
  | In => exact in_any (neg := false) hu I rx ry r hx hy ek q
  | NotIn =>
    obtain ⟨k', ek', rfl⟩ := Option.map_eq_some_iff.mp (show (inD d d' S).map not = some k from ek)
    exact in_any (neg := true) hu I rx ry r hx hy ek' q
  | Lt =>
    rcases two_lt ek with e | ⟨a, b, rfl, rfl, rfl⟩
    · exact op_ord (f := fun i j => decide (i < j)) op_lt I rx ry hx hy e q
    · obtain rfl : x = .str a := hx
      obtain rfl : y = .str b := hy
      exact op_of (k := fun _ _ _ => .bad) op_lt_str I rx ry ⟨a, b, rfl, rfl, q⟩
  | LtE => exact op_ord (f := fun i j => decide (i ≤ j)) op_le I rx ry hx hy (two_ints ek) q
  | Gt => exact op_ord (f := fun i j => decide (j < i)) op_gt I rx ry hx hy (two_ints ek) q
  | GtE => exact op_ord (f := fun i j => decide (j ≤ i)) op_ge I rx ry hx hy (two_ints ek) q
  | Is =>
    obtain ⟨rfl, rfl⟩ := two_is (d := d) ek
    obtain rfl : y = .non := hy
    refine op_of (k := fun _ _ _ => .bad) op_isN I rx ry ⟨rfl, ?_⟩
    rw [show decide (x = V.non) = decide (d = D.non) from decide_eq_decide.mpr (non_iff hx)]
    exact q
  | IsNot =>
    obtain ⟨rfl, rfl⟩ := two_is (d := d) ek
    obtain rfl : y = .non := hy
    refine op_of (k := fun _ _ _ => .bad) op_notN I rx ry ⟨rfl, ?_⟩
    rw [show decide (x = V.non) = decide (d = D.non) from decide_eq_decide.mpr (non_iff hx)]
    exact q

/-! ### subscripts -/
theorem ix_dict (hu : X.A.units + 100 < cLine) : IxR X (fun x y H Q => ∃ a v, x = .ref a ∧ DGet H a y (some v) ∧ Q v H) := by
  intro value slice pins s σ H x y v u Q I rx ry h hs
  obtain ⟨a, w, rfl, gt, q⟩ := h
  cases rx
  have T := dict_typeIs I gt
  have last : wpAny (model X.prog X.w) X.A (subscripted slice false (.ref a) u) (fun r s3 => wpAny (model X.prog X.w) X.A (letTemporaryGo value (.ref a) r >>= fun _ => pure r) (EP X pins σ Q) X.xe s3) X.xe s := by
    rw [hs]
    exact wpAny_operating (d_getItem (by omega) I gt ry fun w' s3 I3 rw' => wpAny_bind (wpAny_letTemporaryGo (wpAny_pure ⟨w, H, I3, rw', q⟩)))
  unfold subscriptTail
  refine wpAny_bind ?_; rw [getitemInPython_of_ne T.not_modules]
  refine wpAny_bind (wpAny_specialOf T PySem.F.slot_dict_getitem.lookup ?_)
  first
    | exact wpAny_pure (wpAny_bind last)
    | exact wpAny_bind (wpAny_pure (wpAny_bind last))
    | exact wpAny_bind last
theorem atI_rep {K : PySem.W.Frag} {μ : List Addr} {H : Hp} {ds : List D} {vs : List V} {i : Int} {d : D} (h : Reps K μ H ds vs) (e : ixAt ds i = some d) : ∃ v, atI vs i = some v ∧ Rep K μ H d v := by
  have e : (ixN ds.length i).bind (fun j => ds[j]?) = some d := e
  obtain ⟨j, e1, e2⟩ := Option.bind_eq_some_iff.mp e
  obtain ⟨v, h1, h2⟩ := h.get e2
  refine ⟨v, ?_, h2⟩
  show (ixN vs.length i).bind (fun j => vs[j]?) = some v
  rw [← h.length, e1]
  exact h1
theorem ix_all (hu : X.A.units + 100 < cLine) : IxR X (r2 (gX X ca) E fun a b S => ok? (ixD a b S) S) := by
  intro value slice pins s σ H x y v u Q I rx ry h hs
  obtain ⟨μ, S, d, d', r, hx, hy, p⟩ := h
  obtain ⟨z, ez, q⟩ := p.ok? r
  clear p
  unfold ixD at ez
  split at ez
  · rename_i xs i
    obtain ⟨a, vs, rfl, h1, h2⟩ := hx
    obtain rfl : y = .int i := hy
    obtain ⟨w, e1, e2⟩ := atI_rep h2 ez
    exact ix_tup value slice pins s σ H _ _ v u Q I rx ry ⟨a, vs, i, w, rfl, rfl, h1.sq, e1, q _ e2⟩ hs
  · rename_i xs i
    obtain ⟨a, vs, rfl, h1, h2⟩ := hx
    obtain rfl : y = .int i := hy
    obtain ⟨w, e1, e2⟩ := atI_rep h2 ez
    exact ix_list value slice pins s σ H _ _ v u Q I rx ry ⟨a, vs, i, w, rfl, rfl, h1.sq, e1, q _ e2⟩ hs
  · rename_i t i
    obtain rfl : x = .str t := hx
    obtain rfl : y = .int i := hy
    split at ez
    · rename_i c
      obtain ⟨w, e1, rfl⟩ := Option.map_eq_some_iff.mp ez
      exact ix_str value slice pins s σ H _ _ v u Q I rx ry ⟨t, i, w, rfl, rfl, c, e1, q _ rfl⟩ hs
    · cases ez
  · rename_i n
    split at ez
    · rename_i xs i hs'
      obtain ⟨a, vs, _, rfl, h1, h2⟩ := r.lstAt hx hs'
      obtain rfl : y = .int i := hy
      obtain ⟨w, e1, e2⟩ := atI_rep h2 ez
      exact ix_list value slice pins s σ H _ _ v u Q I rx ry ⟨a, vs, i, w, rfl, rfl, .of h1, e1, q _ e2⟩ hs
    · rename_i lk kvs hs'
      obtain ⟨kk, ek, el⟩ := Option.bind_eq_some_iff.mp ez
      obtain ⟨b, hb, rfl⟩ := hx
      obtain ⟨kvs', h1, h2, h3⟩ := r.at_ n b _ hb hs'
      have lr := look_rep (k := kk) h2 h3
      rw [el] at lr
      cases ev : valV kvs' kk with
      | none => rw [ev] at lr; exact lr.elim
      | some w =>
        rw [ev] at lr
        refine ix_dict hu value slice pins s σ H _ _ v u Q I rx ry ⟨b, w, rfl, .inl ⟨kvs', kk, ?_, key_rep ek hy, ev.symm⟩, q _ lr⟩ hs
        cases lk with
        | true => exact .inr h1
        | false => exact .inl h1
    · rename_i kvs ks hs'
      obtain ⟨kk, ek, el⟩ := Option.bind_eq_some_iff.mp ez
      obtain ⟨b, hb, rfl⟩ := hx
      exact (r.at_ n b _ hb hs').1.elim
    · cases ez
  · cases ez

/-! ### slices -/
def rSl (g : G) (E : XK) (k : D → Option Int → Option Int → Store → Out D) : V → Option Int → Option Int → Hp → VK → Prop := fun x lo hi H Q => ∃ μ S d, Rel g μ S H ∧ Rep g.K μ H d x ∧ Post g E (k d lo hi S) μ H fun d2 _ μ' H' => ∀ v, Rep g.K μ' H' d2 v → Q v H'
theorem cut_rep {K : PySem.W.Frag} {μ : List Addr} {H : Hp} {ds : List D} {vs : List V} (lo hi : Option Int) (h : Reps K μ H ds vs) : Reps K μ H (cutL ds lo hi) (cutV vs lo hi) := by
  unfold cutL cutV
  rw [h.length]
  exact (h.drop _).take _
theorem cut_all {α : Type} {xs : List α} {lo hi : Option Int} (h : HT.sIx xs.length 0 lo = 0 ∧ HT.sIx xs.length xs.length hi = xs.length) : cutL xs lo hi = xs := by
  unfold cutL
  rw [h.1, h.2]
  simp
end
end Iv

set_option maxRecDepth 10000
/-! Iv7: slices; built-in functions. -/
namespace Iv
open PySem PySem.Spec PyProof.Rows L2
section
variable {X : Cx} {ca : Nat → Addr} {E : XK} {F : Fns}
theorem sl_all : SlR X (rSl (gX X ca) E slD) := by
  intro pins s σ H x v vl vu lo hi sl Q I rx hs pl pu h
  obtain ⟨μ, S, d, r, hx, p⟩ := h
  cases d with
  | tup xs =>
    obtain ⟨a, vs, rfl, h1, h2⟩ := hx
    have p : Post _ E (.ok (D.tup (cutL xs lo hi)) S) μ H _ := p
    have c2 := cut_rep lo hi h2
    cases rx
    obtain ⟨its, rv, ht, hz⟩ := I.tuple h1.sq
    have hlen : its.toArray.size = vs.length := by rw [List.size_toArray]; exact rv.length.symm
    refine ⟨"tuple", _, PyProof.Rows.slot_tuple_getitem.lookup, ht.typeIs, ?_⟩
    by_cases c : HT.sIx vs.length 0 lo = 0 ∧ HT.sIx vs.length vs.length hi = vs.length
    · refine getItem_tuple_whole ht hs pl pu (by rw [hlen]; exact c) ⟨.ref a, H, I, rfl, p.okI r _ ⟨a, vs, rfl, h1, ?_⟩⟩
      rw [cut_all (by rw [h2.length]; exact c)]
      exact h2
    · refine HT.getItem_tuple_cut ht hs pl pu (by rw [hlen]; exact c) ?_ (by rw [hlen]; exact hz)
      rw [hlen]
      obtain ⟨hh, gs, dd, tk, os⟩ := s
      exact EP.tup I ((rv.drop (HT.sIx vs.length 0 lo)).take (HT.sIx vs.length vs.length hi - HT.sIx vs.length 0 lo)) (Nat.le_trans (cutV_length vs lo hi) hz) p r c2
  | rol xs =>
    obtain ⟨a, vs, rfl, h1, h2⟩ := hx
    exact sl_list pins s σ H _ v vl vu lo hi sl Q I rx hs pl pu ⟨a, vs, rfl, h1.sq, fun t ht => Post.lst (show Post _ E (newC (.lst (cutL xs lo hi)) S) μ H _ from p) r (cut_rep lo hi h2) ht⟩
  | str z =>
    obtain rfl : x = .str z := hx
    have p : Post _ E (if z.length ≤ sizeLine then .ok (D.str ⟨(cutL z.cps.toList lo hi).toArray⟩) S else .bad) μ H _ := p
    by_cases c : z.length ≤ sizeLine
    · rw [if_pos c] at p
      exact sl_str pins s σ H _ v vl vu lo hi sl Q I rx hs pl pu ⟨z, rfl, c, p.okI r _ rfl⟩
    · rw [if_neg c] at p
      exact p.elim
  | loc n =>
    have p : Post _ E (match Iv.lstAt S n with | some xs => newC (.lst (cutL xs lo hi)) S | none => .bad) μ H _ := p
    split at p
    · rename_i xs hs'
      obtain ⟨a, vs, rfl, h1, h2⟩ := r.seqOf hx hs'
      rcases h1 with h1 | h1
      · exact sl_list pins s σ H _ v vl vu lo hi sl Q I rx hs pl pu ⟨a, vs, rfl, h1, fun t ht => Post.lst p r (cut_rep lo hi h2) ht⟩
      · obtain ⟨xs', hx'⟩ : ∃ xs', S[n]? = some (.lst xs') := by
          unfold Iv.lstAt at hs'
          split at hs'
          · exact ⟨_, by assumption⟩
          · cases hs'
        obtain ⟨a', vs', _, e, h3, _⟩ := r.lstAt hx hx'
        cases e
        obtain ⟨_, _, ⟨o1, g1, c1, _, _⟩, _⟩ := I.tuple h1
        obtain ⟨_, _, ⟨o2, _, g2, c2, _⟩, _⟩ := I.list (SqL.of h3)
        rw [g1] at g2
        cases g2
        rw [c1] at c2
        exact absurd c2 (by simp)
    · exact p.elim
  | non => exact p.elim
  | bl _ => exact p.elim
  | int _ => exact p.elim

/-! ### built-in functions -/
theorem ints_rep {K : PySem.W.Frag} {μ : List Addr} {H : Hp} : ∀ {ds : List D} {ns : List Int} {vs : List V}, ints? ds = some ns → Reps K μ H ds vs → vs = ns.map V.int
  | [], ns, vs, e, h => by cases e; exact h
  | .int x :: ds, ns, vs, e, h => by
    obtain ⟨v, r, rfl, h1, h2⟩ := h
    obtain ⟨ms, e1, rfl⟩ := Option.map_eq_some_iff.mp (show (ints? ds).map (x :: ·) = some ns from e)
    rw [ints_rep e1 h2, show v = V.int x from h1]
    rfl
  | .non :: _, _, _, e, _ | .bl _ :: _, _, _, e, _ | .str _ :: _, _, _, e, _ | .tup _ :: _, _, _, e, _ | .rol _ :: _, _, _, e, _ | .loc _ :: _, _, _, e, _ => by cases e
theorem strs_rep {K : PySem.W.Frag} {μ : List Addr} {H : Hp} : ∀ {ds : List D} {ns : List Str} {vs : List V}, strs? ds = some ns → Reps K μ H ds vs → vs = ns.map V.str
  | [], ns, vs, e, h => by cases e; exact h
  | .str x :: ds, ns, vs, e, h => by
    obtain ⟨v, r, rfl, h1, h2⟩ := h
    obtain ⟨ms, e1, rfl⟩ := Option.map_eq_some_iff.mp (show (strs? ds).map (x :: ·) = some ns from e)
    rw [strs_rep e1 h2, show v = V.str x from h1]
    rfl
  | .non :: _, _, _, e, _ | .bl _ :: _, _, _, e, _ | .int _ :: _, _, _, e, _ | .tup _ :: _, _, _, e, _ | .rol _ :: _, _, _, e, _ | .loc _ :: _, _, _, e, _ => by cases e
theorem bls_rep {K : PySem.W.Frag} {μ : List Addr} {H : Hp} : ∀ {ds : List D} {ns : List Bool} {vs : List V}, bls? ds = some ns → Reps K μ H ds vs → vs = ns.map V.bl
  | [], ns, vs, e, h => by cases e; exact h
  | .bl x :: ds, ns, vs, e, h => by
    obtain ⟨v, r, rfl, h1, h2⟩ := h
    obtain ⟨ms, e1, rfl⟩ := Option.map_eq_some_iff.mp (show (bls? ds).map (x :: ·) = some ns from e)
    rw [bls_rep e1 h2, show v = V.bl x from h1]
    rfl
  | .non :: _, _, _, e, _ | .str _ :: _, _, _, e, _ | .int _ :: _, _, _, e, _ | .tup _ :: _, _, _, e, _ | .rol _ :: _, _, _, e, _ | .loc _ :: _, _, _, e, _ => by cases e
theorem args1 {K : PySem.W.Frag} {μ : List Addr} {H : Hp} {d : D} {vs : List V} (h : Reps K μ H [d] vs) : ∃ v, vs = [v] ∧ Rep K μ H d v := by
  obtain ⟨v, r, rfl, h1, h2⟩ := h
  obtain rfl : r = [] := h2
  exact ⟨v, rfl, h1⟩
theorem args2 {K : PySem.W.Frag} {μ : List Addr} {H : Hp} {d d' : D} {vs : List V} (h : Reps K μ H [d, d'] vs) : ∃ v v', vs = [v, v'] ∧ Rep K μ H d v ∧ Rep K μ H d' v' := by
  obtain ⟨v, r, rfl, h1, h2⟩ := h
  obtain ⟨v', rfl, h3⟩ := args1 h2
  exact ⟨v, v', rfl, h1, h3⟩
/-- a built-in function's call, by values -/
abbrev Calls1 (X : Cx) (f : Value) (r : List V → Hp → VK → Prop) : Prop := CallR X f r
theorem call_of {f : Value} {r : List V → Hp → VK → Prop} {pins : List (Addr × Obj)} {s : Shared} {σ : L2.St} {H : Hp} {xs : List V} {us : List Value} {Q : VK} (h : CallR X f r) (I : Inv X pins σ H s) (rx : Vals xs us) (q : r xs H Q) :
    wpAny (model X.prog X.w) X.A (call f us) (EP X pins σ Q) X.xe s := h pins s σ H xs us Q I rx q
theorem b_len : CallR X (.builtin "len") (rN (gX X ca) E (bfD .len)) := by
  intro pins s σ H xs us Q I rx h
  obtain ⟨μ, S, ds, r, hx, p⟩ := h
  match ds, p with
  | [], p => exact p.elim
  | _ :: _ :: _, p => exact p.elim
  | [d], p =>
    obtain ⟨x, rfl, hx1⟩ := args1 hx
    clear hx
    obtain ⟨z, ez, q0⟩ := Post.ok? (show Post _ E (ok? ((lenD S d).map fun n : Nat => D.int n) S) μ H _ from p) r
    obtain ⟨n, en, rfl⟩ := Option.map_eq_some_iff.mp ez
    have q := q0 _ rfl
    clear p ez q0
    have hx := hx1
    clear hx1
    cases d with
    | str z =>
      obtain rfl : x = .str z := hx
      have en : (if z.length ≤ sizeLine then some z.length else none) = some n := en
      by_cases c : z.length ≤ sizeLine
      · rw [if_pos c] at en
        cases en
        exact call_of call_len_str I rx ⟨z, rfl, c, q⟩
      · rw [if_neg c] at en
        cases en
    | tup ys =>
      obtain ⟨a, vs, rfl, h1, h2⟩ := hx
      cases en
      refine call_of call_len_seq I rx ⟨a, vs, rfl, .inr h1.sq, ?_⟩
      rw [← h2.length]
      exact q
    | rol ys =>
      obtain ⟨a, vs, rfl, h1, h2⟩ := hx
      cases en
      refine call_of call_len_seq I rx ⟨a, vs, rfl, .inl h1.sq, ?_⟩
      rw [← h2.length]
      exact q
    | loc m =>
      simp only [lenD] at en
      split at en
      · rename_i ys hs
        cases en
        obtain ⟨a, vs, _, rfl, h1, h2⟩ := r.lstAt hx hs
        refine call_of call_len_seq I rx ⟨a, vs, rfl, .inl (.of h1), ?_⟩
        rw [← h2.length]
        exact q
      · rename_i lk kvs hs
        cases en
        obtain ⟨b, hb, rfl⟩ := hx
        obtain ⟨kvs', h1, h2, h3⟩ := r.at_ m b _ hb hs
        have hl : kvs.length = kvs'.length := by simpa using congrArg List.length h2
        have rd : Rd H b (.dK kvs') := by
          cases lk with
          | true => exact .inr h1
          | false => exact .inl h1
        obtain ⟨u, rfl, ru⟩ := vals1 rx
        cases ru
        exact d_len I rd fun t s' I' => ⟨.int kvs.length, H, I', ⟨t, by rw [hl]⟩, q⟩
      · rename_i ks hs
        cases en
        obtain ⟨b, hb, rfl⟩ := hx
        obtain ⟨h1, h2⟩ := r.at_ m b _ hb hs
        obtain ⟨o, es, ep, tb, g1, g2, g3, _, _, g6, g7, g8⟩ := setK_get I h1
        obtain ⟨u, rfl, ru⟩ := vals1 rx
        cases ru
        refine call_len_set g1 g2 g3 g7 (by have : scanBound = 4096 := rfl; omega) ⟨.int (ks.length : Nat), H, I.tok _, ⟨_, by rw [g8]⟩, q⟩
      · cases en
    | _ => cases en
theorem b_max2 (hc : X.calm = true) : CallR X (.builtin "max") (rN (gX X ca) E (bfD .max2)) := by
  intro pins s σ H xs us Q I rx h
  obtain ⟨μ, S, ds, r, hx, p⟩ := h
  match ds, p with
  | [.int i, .int j], p =>
    obtain ⟨x, y, rfl, h1, h2⟩ := args2 hx
    obtain rfl : x = .int i := h1
    obtain rfl : y = .int j := h2
    exact call_of (call_max2 hc) I rx ⟨i, j, rfl, Post.okI (show Post _ E (.ok (D.int (if j > i then j else i)) S) μ H _ from p) r _ rfl⟩
theorem b_min2 (hc : X.calm = true) : CallR X (.builtin "min") (rN (gX X ca) E (bfD .min2)) := by
  intro pins s σ H xs us Q I rx h
  obtain ⟨μ, S, ds, r, hx, p⟩ := h
  match ds, p with
  | [.int i, .int j], p =>
    obtain ⟨x, y, rfl, h1, h2⟩ := args2 hx
    obtain rfl : x = .int i := h1
    obtain rfl : y = .int j := h2
    exact call_of (call_min2 hc) I rx ⟨i, j, rfl, Post.okI (show Post _ E (.ok (D.int (if j < i then j else i)) S) μ H _ from p) r _ rfl⟩
theorem b_abs : CallR X (.builtin "abs") (rN (gX X ca) E (bfD .abs)) := by
  intro pins s σ H xs us Q I rx h
  obtain ⟨μ, S, ds, r, hx, p⟩ := h
  match ds, p with
  | [.int i], p =>
    obtain ⟨x, rfl, h1⟩ := args1 hx
    obtain rfl : x = .int i := h1
    exact call_of call_abs I rx ⟨i, rfl, Post.okI (show Post _ E (.ok (D.int (if i < 0 then -i else i)) S) μ H _ from p) r _ rfl⟩
theorem b_int : CallR X (.type "int") (rN (gX X ca) E (bfD .int)) := by
  intro pins s σ H xs us Q I rx h
  obtain ⟨μ, S, ds, r, hx, p⟩ := h
  match ds, p with
  | [.int i], p =>
    obtain ⟨x, rfl, h1⟩ := args1 hx
    obtain rfl : x = .int i := h1
    exact call_of call_int1 I rx (.inl ⟨i, rfl, Post.okI (show Post _ E (.ok (D.int i) S) μ H _ from p) r _ rfl⟩)
  | [.bl k], p =>
    obtain ⟨x, rfl, h1⟩ := args1 hx
    obtain rfl : x = .bl k := h1
    exact call_of call_int1 I rx (.inr ⟨k, rfl, Post.okI (show Post _ E (.ok (D.int (if k then 1 else 0)) S) μ H _ from p) r _ rfl⟩)
theorem bf_bad {α : Type} {g : G} {μ : List Addr} {H : Hp} {R : α → Store → List Addr → Hp → Prop} (p : Post g E (.bad : Out α) μ H R) : False := p
/-- the list that a built-in function walks -/
theorem seq_list {o : Option (List D)} {K : PySem.W.Frag} {μ : List Addr} {H : Hp} {S : Store} {d : D} {x : V} {w : World} {P : Program} {pins : List (Addr × Obj)} {s : Shared} {σ : L2.St} (I : Inv X pins σ H s) (r : Rel (gX X ca) μ S H) (h : Rep X.K μ H d x) {xs : List D} (e : seqOf S d = some xs) (nt : ∀ ys, d ≠ .tup ys) :
    ∃ a vs, x = .ref a ∧ SqL X.K H a vs ∧ Reps X.K μ H xs vs := by
  obtain ⟨a, vs, rfl, h1, h2⟩ := r.seqOf h e
  rcases h1 with h1 | h1
  · exact ⟨a, vs, rfl, h1, h2⟩
  · cases d with
    | tup ys => exact absurd rfl (nt ys)
    | rol ys =>
      obtain ⟨a', vs', e', h3, h4⟩ := h
      cases e'
      cases e
      exact ⟨a, vs', rfl, h3.sq, h4⟩
    | loc n =>
      have e : Iv.lstAt S n = some xs := e
      unfold Iv.lstAt at e
      split at e
      · rename_i zs hs
        cases e
        obtain ⟨a', vs', _, e', h3, h4⟩ := r.lstAt h hs
        cases e'
        exact ⟨a, vs', rfl, .of h3, h4⟩
      · cases e
    | non => cases e
    | bl _ => cases e
    | int _ => cases e
    | str _ => cases e
theorem list_list {μ : List Addr} {H : Hp} {S : Store} {d : D} {x : V} {pins : List (Addr × Obj)} {s : Shared} {σ : L2.St} (I : Inv X pins σ H s) (r : Rel (gX X ca) μ S H) (h : Rep X.K μ H d x) {xs : List D} (e : listOf S d = some xs) :
    ∃ a vs, x = .ref a ∧ SqL X.K H a vs ∧ Reps X.K μ H xs vs := by
  have nt : ∀ ys, d ≠ .tup ys := fun ys z => by subst z; cases e
  have e' : seqOf S d = some xs := by
    cases d <;> first | exact e | cases e
  exact seq_list (o := none) (K := X.K) (w := X.w) (P := X.prog) I r h e' nt
theorem b_sum (hc : X.calm = true) : CallR X (.builtin "sum") (rN (gX X ca) E (bfD .sum)) := by
  intro pins s σ H xs us Q I rx h
  obtain ⟨μ, S, ds, r, hx, p⟩ := h
  match ds, p with
  | [], p => exact p.elim
  | _ :: _ :: _, p => exact p.elim
  | [d], p =>
    obtain ⟨x, rfl, h1⟩ := args1 hx
    obtain ⟨z, ez, q⟩ := Post.ok? (show Post _ E (ok? (((listOf S d).bind ints?).map fun l => D.int l.sum) S) μ H _ from p) r
    obtain ⟨l, el, rfl⟩ := Option.map_eq_some_iff.mp ez
    obtain ⟨ys, ey, el⟩ := Option.bind_eq_some_iff.mp el
    obtain ⟨a, vs, rfl, h2, h3⟩ := list_list I r h1 ey
    rw [ints_rep el h3] at h2
    exact call_of (cr_sum hc) I rx ⟨a, l, rfl, h2, q _ rfl⟩
theorem b_all (hc : X.calm = true) : CallR X (.builtin "all") (rN (gX X ca) E (bfD .all)) := by
  intro pins s σ H xs us Q I rx h
  obtain ⟨μ, S, ds, r, hx, p⟩ := h
  match ds, p with
  | [], p => exact p.elim
  | _ :: _ :: _, p => exact p.elim
  | [d], p =>
    obtain ⟨x, rfl, h1⟩ := args1 hx
    obtain ⟨z, ez, q⟩ := Post.ok? (show Post _ E (ok? (((listOf S d).bind bls?).map fun l => D.bl (l.all id)) S) μ H _ from p) r
    obtain ⟨l, el, rfl⟩ := Option.map_eq_some_iff.mp ez
    obtain ⟨ys, ey, el⟩ := Option.bind_eq_some_iff.mp el
    obtain ⟨a, vs, rfl, h2, h3⟩ := list_list I r h1 ey
    rw [bls_rep el h3] at h2
    exact call_of (cr_all hc) I rx ⟨a, l, rfl, h2, q _ rfl⟩
theorem b_any (hc : X.calm = true) : CallR X (.builtin "any") (rN (gX X ca) E (bfD .any)) := by
  intro pins s σ H xs us Q I rx h
  obtain ⟨μ, S, ds, r, hx, p⟩ := h
  match ds, p with
  | [], p => exact p.elim
  | _ :: _ :: _, p => exact p.elim
  | [d], p =>
    obtain ⟨x, rfl, h1⟩ := args1 hx
    obtain ⟨z, ez, q⟩ := Post.ok? (show Post _ E (ok? (((listOf S d).bind bls?).map fun l => D.bl (l.any id)) S) μ H _ from p) r
    obtain ⟨l, el, rfl⟩ := Option.map_eq_some_iff.mp ez
    obtain ⟨ys, ey, el⟩ := Option.bind_eq_some_iff.mp el
    obtain ⟨a, vs, rfl, h2, h3⟩ := list_list I r h1 ey
    rw [bls_rep el h3] at h2
    exact call_of (cr_any hc) I rx ⟨a, l, rfl, h2, q _ rfl⟩
theorem b_tuple : CallR X (.type "tuple") (rN (gX X ca) E (bfD .tuple)) := by
  intro pins s σ H xs us Q I rx h
  obtain ⟨μ, S, ds, r, hx, p⟩ := h
  match ds, p with
  | [], p => exact p.elim
  | _ :: _ :: _, p => exact p.elim
  | [d], p =>
    obtain ⟨x, rfl, h1⟩ := args1 hx
    have p : Post (gX X ca) E (ok? ((seqOf S d).map D.tup) S) μ H _ := p
    by_cases nt : ∃ ys, d = .tup ys
    · obtain ⟨ys, rfl⟩ := nt
      obtain ⟨a, vs, rfl, h2, h3⟩ := h1
      exact call_of call_tuple_of I rx ⟨a, vs, rfl, .inr ⟨h2.sq, Post.okI (show Post _ E (.ok (D.tup ys) S) μ H _ from p) r _ ⟨a, vs, rfl, h2, h3⟩⟩⟩
    · have nt : ∀ ys, d ≠ .tup ys := fun ys e => nt ⟨ys, e⟩
      cases ez : seqOf S d with
      | none => rw [ez] at p; exact p.elim
      | some ys =>
        rw [ez] at p
        obtain ⟨a, vs, rfl, h2, h3⟩ := seq_list (o := none) (K := X.K) (w := X.w) (P := X.prog) I r h1 ez nt
        obtain ⟨its, rv, pl, hz⟩ := I.list h2
        obtain ⟨u, rfl, ru⟩ := vals1 rx
        cases ru
        have hlen := rv.length
        refine call_tuple_list pl.isList (fun h' kp => ?_) (by simp only [List.size_toArray]; omega)
        obtain ⟨hh, gs, dd, tk, os⟩ := s
        exact EP.tup (I.kept (t' := tk) kp) rv hz (show Post _ E (.ok (D.tup ys) S) μ H _ from p) r h3
theorem b_list : CallR X (.type "list") (rN (gX X ca) E (bfD .list)) := by
  intro pins s σ H xs us Q I rx h
  obtain ⟨μ, S, ds, r, hx, p⟩ := h
  match ds, p with
  | [], p => exact p.elim
  | _ :: _ :: _, p => exact p.elim
  | [d], p =>
    obtain ⟨x, rfl, h1⟩ := args1 hx
    have p : Post (gX X ca) E (match seqOf S d with | some xs => newC (.lst xs) S | none => .bad) μ H _ := p
    cases ez : seqOf S d with
    | none => rw [ez] at p; exact p.elim
    | some ys =>
      rw [ez] at p
      obtain ⟨a, vs, rfl, h2, h3⟩ := r.seqOf h1 ez
      exact call_of call_list_of I rx ⟨a, vs, rfl, h2, fun t ht => Post.lst p r h3 ht⟩
end
end Iv

set_option maxRecDepth 10000
/-! Iv8: sorted, min, max; methods. -/
namespace Iv
open PySem PySem.Spec PyProof.Rows L2
section
variable {X : Cx} {ca : Nat → Addr} {E : XK}
theorem zip_each {K : PySem.W.Frag} {μ : List Addr} {H : Hp} {R : V → D → PyData → Prop} : ∀ {xs : List D} {ds : List PyData} {vs : List V} {us : List Value}, xs.length = ds.length → Reps K μ H xs vs → Vals vs us →
    PySem.W.EachIs (fun v (b : D × PyData) => ∃ w, RelV w v ∧ Rep K μ H b.1 w) us (xs.zip ds)
  | [], [], vs, us, _, h, r => by
    obtain rfl : vs = [] := h
    cases r
    exact .nil
  | x :: xs, d :: ds, vs, us, e, h, r => by
    obtain ⟨w, q, rfl, h1, h2⟩ := h
    cases r with
    | cons r1 r2 => exact .cons ⟨w, r1, h1⟩ (zip_each (R := R) (by simpa using e) h2 r2)
  | [], _ :: _, _, _, e, _, _ => by simp at e
  | _ :: _, [], _, _, e, _, _ => by simp at e
theorem zip_reads {h : Heap} : ∀ {xs : List D} {ds : List PyData} {us : List Value} {as : List Addr}, xs.length = ds.length → ReadsAll h us ds as → PySem.W.EachIs (fun v (b : D × PyData) => ∃ as, Reads h v b.2 as) us (xs.zip ds)
  | [], [], _, _, _, r => by cases r; exact .nil
  | x :: xs, d :: ds, _, _, e, r => by
    cases r with
    | cons r1 r2 => exact .cons ⟨_, r1⟩ (zip_reads (by simpa using e) r2)
  | [], _ :: _, _, _, e, _ => by simp at e
  | _ :: _, [], _, _, e, _ => by simp at e
theorem each_out {K : PySem.W.Frag} {μ : List Addr} {H : Hp} : ∀ {us : List Value} {bs : List (D × PyData)}, PySem.W.EachIs (fun v (b : D × PyData) => ∃ w, RelV w v ∧ Rep K μ H b.1 w) us bs → ∃ vs, Vals vs us ∧ Reps K μ H (bs.map (·.1)) vs
  | _, _, .nil => ⟨[], .nil, rfl⟩
  | _, _, .cons ⟨w, r, h⟩ t => by
    obtain ⟨vs, h1, h2⟩ := each_out t
    exact ⟨w :: vs, .cons r h1, w, vs, rfl, h, h2⟩
theorem each_len {α β : Type} {R : α → β → Prop} : ∀ {as : List α} {bs : List β}, PySem.W.EachIs R as bs → as.length = bs.length
  | _, _, .nil => rfl
  | _, _, .cons _ t => congrArg (· + 1) (each_len t)
theorem map_zip_snd : ∀ {xs : List D} {ds : List PyData}, xs.length = ds.length → (xs.zip ds).map (·.2) = ds
  | [], [], _ => rfl
  | x :: xs, d :: ds, e => by
    rw [List.zip_cons_cons, List.map_cons, map_zip_snd (by simpa using e)]
  | [], _ :: _, e => by simp at e
  | _ :: _, [], e => by simp at e
theorem alikes_ok {ds : List PyData} (h : alikes ds = true) : PySem.W.AllAlike ds := fun d hd e he => List.all_eq_true.mp (List.all_eq_true.mp h d hd) e he
theorem sortable_ok {ds : List PyData} (h : sortable ds = true) : PySem.W.Sortable ds := by
  rcases Bool.or_eq_true_iff.mp h with h | h
  · refine .inl fun d hd => ?_
    have q := List.all_eq_true.mp h d hd
    cases d with
    | tuple xs =>
      cases xs with
      | nil => cases q
      | cons x r => exact ⟨x, r, rfl⟩
    | _ => cases q
  · refine .inr fun d hd => ?_
    have q := List.all_eq_true.mp h d hd
    cases d with
    | none => cases q
    | tuple xs => cases q
    | _ => exact ⟨(fun e => nomatch e), fun xs e => nomatch e⟩
theorem sort_list (hu : X.A.units + 100 < cLine) {pins : List (Addr × Obj)} {s : Shared} {σ : L2.St} {H : Hp} {Q : VK} {μ : List Addr} {S : Store} {xs ys : List D} {a : Addr} {vs : List V} (I : Inv X pins σ H s) (r : Rel (gX X ca) μ S H) (hs : SqL X.K H a vs) (hr : Reps X.K μ H xs vs)
    (e : sortD S xs = some ys) (q : ∀ p ws, H p = none → Reps X.K μ H ys ws → Q (.ref p) (upd H p (.lst ws))) : wpAny (model X.prog X.w) X.A (call (.builtin "sorted") [.ref a]) (EP X pins σ Q) X.xe s := by
  unfold sortD at e
  split at e
  · rename_i ds ed
    split at e
    · rename_i c
      cases e
      simp only [Bool.and_eq_true, decide_eq_true_eq] at c
      obtain ⟨⟨c1, c2⟩, c3⟩ := c
      have hl : xs.length = ds.length := (mapO_len ed).symm
      obtain ⟨its, rv, hp, hz⟩ := I.list hs
      obtain ⟨as, ra⟩ := Dp.readsAll I ds vs its (dps_of r 8 xs vs ds ed hr) rv
      have em := map_zip_snd hl
      refine PySem.W.sorted_data (enc := fun b : D × PyData => b.2) (bs := xs.zip ds) hp.isList (zip_each (R := fun _ _ _ => True) hl hr rv) (zip_reads hl ra) (by rw [em]; exact alikes_ok c1) (by rw [em]; exact sortable_ok c2)
        (by rw [List.length_zip]; omega) (fun b hb => ?_) fun out hlo ho => ?_
      · obtain ⟨x, _, ex⟩ := mapO_mem ed (show b.2 ∈ ds by rw [← em]; exact List.mem_map_of_mem hb)
        have := (plain_of 8 x b.2 ex).2.1
        show X.A.units + 2 + b.2.depth < cLine
        omega
      · obtain ⟨ws, h1, h2⟩ := each_out ho
        have hn : H (s.heap.objs.size + 1) = none := I.hok.fresh (Nat.le_succ _)
        obtain ⟨ep, hat⟩ := PyProof.Rows.sortedAll_at s.heap its out.toArray
        refine ⟨.ref (s.heap.objs.size + 1), upd H (s.heap.objs.size + 1) (.lst ws), I.laid (t' := s.toks) (fun b o q => PyProof.Rows.sortedAll_old q) (Nat.le_succ _) ?_, rfl, q _ ws hn h2⟩
        refine ⟨?_, out, ep, h1, hat⟩
        rw [h1.length, hlo, List.length_zip]
        omega
    · cases e
  · cases e
theorem strKeys_eq : ∀ {l : List Key} {ks : List Str}, strKeys l = some ks → l = ks.map Sum.inr
  | [], _, e => by cases e; rfl
  | .inr x :: r, ks, e => by
    obtain ⟨ms, e1, rfl⟩ := Option.map_eq_some_iff.mp (show (strKeys r).map (x :: ·) = some ks from e)
    rw [strKeys_eq e1]
    rfl
  | .inl _ :: _, _, e => by cases e
theorem str_ext {x y : Str} (h : x.cps.toList = y.cps.toList) : x = y := PySem.W.str_of_cps h
theorem leStr_trans (a b c : Str) (h1 : leStr a b = true) (h2 : leStr b c = true) : leStr a c = true := decide_eq_true (List.le_trans (of_decide_eq_true h1) (of_decide_eq_true h2))
theorem leStr_total (a b : Str) : (leStr a b || leStr b a) = true := by
  unfold leStr
  rcases List.le_total a.cps.toList b.cps.toList with h | h <;> simp [h]
theorem leStr_anti {a b : Str} (h1 : leStr a b = true) (h2 : leStr b a = true) : a = b := str_ext (List.le_antisymm (of_decide_eq_true h1) (of_decide_eq_true h2))
/-- two rows in order, of the same texts -/
theorem sorted_uniq {xs ys : List Str} (p : xs.Perm ys) (hx : xs.Pairwise fun a b => leStr a b = true) (hy : ys.Pairwise fun a b => leStr a b = true) : xs = ys :=
  p.eq_of_pairwise (fun a b _ _ h1 h2 => leStr_anti h1 h2) hx hy
theorem sortS_perm (xs : List Str) : (sortS xs).Perm xs := List.mergeSort_perm _ _
theorem sortS_sorted (xs : List Str) : (sortS xs).Pairwise fun a b => leStr a b = true := List.pairwise_mergeSort leStr_trans leStr_total xs
end
end Iv

set_option maxRecDepth 10000
/-! Iv9: methods of built-in types. -/
namespace Iv
open PySem PySem.Spec PyProof.Rows L2
section
variable {X : Cx} {ca : Nat → Addr} {E : XK} {F : Fns}
def Bm.name : Bm → Str
  | .append => "append" | .pop | .popAt => "pop" | .insert => "insert" | .index => "index" | .count => "count" | .add => "add" | .upper => "upper" | .lower => "lower"
  | .join => "join" | .split => "split" | .partition => "partition" | .get2 => "get" | .values => "values" | .items => "items"
/-- the method that is meant: its type, its own name -/
structure BmAt (X : Cx) (ca : Nat → Addr) (E : XK) (m : Bm) (d : D) (v : Value) (s : Shared) : Prop where
  ex : ∃ T id, PlainAttrs T ∧ Slot T m.name id ∧ typeOf (.builtin id) = pure (.type "method_descriptor") ∧ s.TypeIs v T ∧ (∀ a, v = .ref a → ∃ ob, s.heap.get? a = some ob ∧ ob.dict = none) ∧
    MtR X id fun x xs H Q => ∃ μ S ds, Rel (gX X ca) μ S H ∧ Rep X.K μ H d x ∧ Reps X.K μ H ds xs ∧ Post (gX X ca) E (bmD m d ds S) μ H fun d2 _ μ' H' => ∀ v, Rep X.K μ' H' d2 v → Q v H'
theorem lst_type {pins : List (Addr × Obj)} {σ : L2.St} {H : Hp} {s : Shared} {a : Addr} {vs : List V} (I : Inv X pins σ H s) (h : H a = some (.lst vs)) : s.TypeIs (.ref a) "list" ∧ ∀ b, Value.ref a = .ref b → ∃ ob, s.heap.get? b = some ob ∧ ob.dict = none := by
  obtain ⟨z, its, n, r, e⟩ := I.hok a _ h
  exact ⟨⟨_, e, rfl⟩, fun b q => by cases q; exact ⟨_, e, rfl⟩⟩
theorem tup_type {pins : List (Addr × Obj)} {σ : L2.St} {H : Hp} {s : Shared} {a : Addr} {vs : List V} (I : Inv X pins σ H s) (h : TupAt H a vs) : s.TypeIs (.ref a) "tuple" ∧ ∀ b, Value.ref a = .ref b → ∃ ob, s.heap.get? b = some ob ∧ ob.dict = none := by
  obtain ⟨o, ho, hd⟩ := h
  obtain ⟨e, z, its, r, o2, e2, c, _⟩ := I.hok a _ ho
  rw [e] at e2
  cases e2
  exact ⟨⟨o, e, c⟩, fun b q => by cases q; exact ⟨o, e, hd⟩⟩
theorem list_meth {m : Bm} {id : String} {n : Nat} {s : Shared} {H : Hp} {a : Addr} {vs : List V} {pins : List (Addr × Obj)} {σ : L2.St} (I : Inv X pins σ H s) (h : H a = some (.lst vs)) (slot : Slot "list" m.name id) (ty : typeOf (.builtin id) = pure (.type "method_descriptor"))
    (hm : MtR X id fun x xs H Q => ∃ μ S ds, Rel (gX X ca) μ S H ∧ Rep X.K μ H (.loc n) x ∧ Reps X.K μ H ds xs ∧ Post (gX X ca) E (bmD m (.loc n) ds S) μ H fun d2 _ μ' H' => ∀ v, Rep X.K μ' H' d2 v → Q v H') : BmAt X ca E m (.loc n) (.ref a) s :=
  ⟨"list", id, PySem.F.plainAttrs_list, slot, ty, (lst_type I h).1, (lst_type I h).2, hm⟩
/-- a list in its place, written -/
theorem Post.putL {g : G} {E : XK} {μ : List Addr} {H : Hp} {S : Store} {n : Nat} {a : Addr} {vs : List V} {d : D} {ds : List D} {us : List V} {Q : D → List Addr → Hp → Prop} (q : Post g E (.ok d (S.set n (.lst ds))) μ H fun d _ μ' H' => Q d μ' H') (r : Rel g μ S H) (ha : μ[n]? = some a) (h : H a = some (.lst vs)) (hr : Reps g.K μ H ds us) :
    Q d μ (upd H a (.lst us)) ∧ Ext g.K μ μ H (upd H a (.lst us)) := by
  have n1 : ∀ q u, H a ≠ some (.frz q u) := fun q xs e => by rw [h] at e; cases e
  have e : Ext g.K μ μ H (upd H a (.lst us)) := Ext.put (List.mem_of_getElem? ha) n1
  exact ⟨q μ _ e (r.put ha n1 ⟨us, upd_same, Reps.mono e hr⟩), e⟩
theorem Post.lstDo {g : G} {μ : List Addr} {H : Hp} {S : Store} {o : D} {x : V} {f : Nat → List D → Out D} {R : D → Store → List Addr → Hp → Prop} (p : Post g E (Iv.lstDo o S f) μ H R) (r : Rel g μ S H) (hx : Rep g.K μ H o x) :
    ∃ n xs a vs, o = .loc n ∧ S[n]? = some (.lst xs) ∧ μ[n]? = some a ∧ x = .ref a ∧ H a = some (.lst vs) ∧ Reps g.K μ H xs vs ∧ Post g E (f n xs) μ H R := by
  cases o with
  | loc n =>
    have p : Post g E (match S[n]? with | some (.lst xs) => f n xs | _ => .bad) μ H R := p
    split at p
    · rename_i xs hs
      obtain ⟨a, vs, ha, rfl, h1, h2⟩ := r.lstAt hx hs
      exact ⟨n, xs, a, vs, rfl, hs, ha, rfl, h1, h2, p⟩
    · exact p.elim
  | _ => exact p.elim
theorem m_append {d0 : D} : MtR X "list.append" fun x xs H Q => ∃ μ S ds, Rel (gX X ca) μ S H ∧ Rep X.K μ H d0 x ∧ Reps X.K μ H ds xs ∧ Post (gX X ca) E (bmD .append d0 ds S) μ H fun d2 _ μ' H' => ∀ v, Rep X.K μ' H' d2 v → Q v H' := by
  intro pins s σ H x xs v us Q I rx rxs h
  obtain ⟨μ, S, ds, r, hx, hxs, p⟩ := h
  match ds, p with
  | [], p => exact p.elim
  | _ :: _ :: _, p => exact p.elim
  | [d], p =>
    obtain ⟨y, rfl, hy⟩ := args1 hxs
    obtain ⟨n, ys, a, vs, rfl, hs, ha, rfl, h1, h2, p⟩ := Post.lstDo (show Post _ E (lstDo d0 S fun n xs => if xs.length < sizeLine then .ok .non (S.set n (.lst (xs ++ [d]))) else .bad) μ H _ from p) r hx
    split at p
    · rename_i c
      obtain ⟨q, e⟩ := Post.putL p r ha h1 (h2.app (Reps.one hy))
      exact mt_append pins s σ H _ _ v us Q I rx rxs ⟨a, vs, y, rfl, rfl, h1, by rw [← h2.length]; exact c, q _ rfl⟩
    · exact p.elim
theorem m_popAt {d0 : D} : MtR X "list.pop" fun x xs H Q => ∃ μ S ds, Rel (gX X ca) μ S H ∧ Rep X.K μ H d0 x ∧ Reps X.K μ H ds xs ∧ Post (gX X ca) E (bmD .popAt d0 ds S) μ H fun d2 _ μ' H' => ∀ v, Rep X.K μ' H' d2 v → Q v H' := by
  intro pins s σ H x xs v us Q I rx rxs h
  obtain ⟨μ, S, ds, r, hx, hxs, p⟩ := h
  match ds, p with
  | [.int i], p =>
    obtain ⟨y, rfl, hy⟩ := args1 hxs
    obtain rfl : y = .int i := hy
    obtain ⟨n, ys, a, vs, rfl, hs, ha, rfl, h1, h2, p⟩ := Post.lstDo (show Post _ E (lstDo d0 S fun n xs => _) μ H _ from p) r hx
    split at p <;> first | exact p.elim | skip
    rename_i j hj
    split at p <;> first | exact p.elim | skip
    rename_i d hd
    split at p
    · rename_i c
      obtain ⟨w, e1, e2⟩ := h2.get hd
      obtain ⟨q, e⟩ := Post.putL p r ha h1 (h2.erase j)
      exact mt_popAt pins s σ H _ _ v us Q I rx rxs ⟨a, vs, i, j, w, rfl, rfl, h1, by omega, by omega, by rw [← h2.length]; exact (ixN_seq hj).1, e1, q _ (e2.mono e)⟩
    · exact p.elim
theorem m_pop {d0 : D} : MtR X "list.pop" fun x xs H Q => ∃ μ S ds, Rel (gX X ca) μ S H ∧ Rep X.K μ H d0 x ∧ Reps X.K μ H ds xs ∧ Post (gX X ca) E (bmD .pop d0 ds S) μ H fun d2 _ μ' H' => ∀ v, Rep X.K μ' H' d2 v → Q v H' := by
  intro pins s σ H x xs v us Q I rx rxs h
  obtain ⟨μ, S, ds, r, hx, hxs, p⟩ := h
  match ds, p with
  | _ :: _, p => exact p.elim
  | [], p =>
    obtain rfl : xs = [] := hxs
    obtain ⟨n, ys, a, vs, rfl, hs, ha, rfl, h1, h2, p⟩ := Post.lstDo (show Post _ E (lstDo d0 S fun n xs => _) μ H _ from p) r hx
    split at p <;> first | exact p.elim | skip
    rename_i d hd
    rw [List.getLast?_eq_getElem?] at hd
    obtain ⟨w, e1, e2⟩ := h2.get hd
    obtain ⟨q, e⟩ := Post.putL p r ha h1 h2.dropLast
    exact mt_pop pins s σ H _ _ v us Q I rx rxs ⟨a, vs, w, rfl, rfl, h1, by rw [← h2.length]; exact e1, q _ (e2.mono e)⟩
theorem idx_ok : ∀ {l : List Str} {x : Str} {j : Nat}, idxOf x l = some j → l[j]? = some x ∧ ∀ m, m < j → l[m]? ≠ some x
  | [], _, _, e => by cases e
  | b :: r, x, j, e => by
    unfold idxOf at e
    by_cases c : b = x
    · rw [if_pos c] at e
      cases e
      exact ⟨by rw [c]; rfl, fun m h => absurd h (Nat.not_lt_zero m)⟩
    · rw [if_neg c] at e
      obtain ⟨i, ei, rfl⟩ := Option.map_eq_some_iff.mp e
      obtain ⟨h1, h2⟩ := idx_ok ei
      refine ⟨h1, fun m h => ?_⟩
      cases m with
      | zero => exact fun z => c (Option.some.inj z)
      | succ m => exact h2 m (by omega)
theorem eq_self (z : Str) : eqV (.str z) (.str z) = true := by
  simp [eqV]
theorem eq_ne {a b : Str} (h : a ≠ b) : eqV (.str a) (.str b) = false := by
  simp [eqV, h]
theorem m_indexL {d0 : D} (nt : ∀ ys, d0 ≠ .tup ys) : MtR X "list.index" fun x xs H Q => ∃ μ S ds, Rel (gX X ca) μ S H ∧ Rep X.K μ H d0 x ∧ Reps X.K μ H ds xs ∧ Post (gX X ca) E (bmD .index d0 ds S) μ H fun d2 _ μ' H' => ∀ v, Rep X.K μ' H' d2 v → Q v H' := by
  intro pins s σ H x xs v us Q I rx rxs h
  obtain ⟨μ, S, ds, r, hx, hxs, p⟩ := h
  match ds, p with
  | [.str z], p =>
    obtain ⟨y, rfl, hy⟩ := args1 hxs
    obtain rfl : y = .str z := hy
    have p : Post _ E (match seqOf S d0 with | some xs => (match strs? xs with | some l => ok? ((idxOf z l).map fun j : Nat => D.int j) S | none => .bad) | none => .bad) μ H _ := p
    split at p <;> first | exact p.elim | skip
    rename_i ys ey
    split at p <;> first | exact p.elim | skip
    rename_i l el
    obtain ⟨w, ew, q⟩ := p.ok? r
    obtain ⟨j, ej, rfl⟩ := Option.map_eq_some_iff.mp ew
    obtain ⟨a, vs, rfl, h2, h3⟩ := seq_list (o := none) (K := X.K) (w := X.w) (P := X.prog) I r hx ey nt
    rw [strs_rep el h3] at h2
    obtain ⟨i1, i2⟩ := idx_ok ej
    refine mt_index pins s σ H _ _ v us Q I rx rxs ⟨a, l.map V.str, .str z, j, .str z, rfl, rfl, h2, rfl, flat_strs l, by rw [List.getElem?_map, i1]; rfl, eq_self z, fun m z' hm e => ?_, q _ rfl⟩
    rw [List.getElem?_map] at e
    obtain ⟨w, ew, rfl⟩ := Option.map_eq_some_iff.mp e
    exact eq_ne fun c => i2 m hm (by rw [ew, c])
theorem m_indexT {zs : List D} : MtR X "tuple.index" fun x xs H Q => ∃ μ S ds, Rel (gX X ca) μ S H ∧ Rep X.K μ H (.tup zs) x ∧ Reps X.K μ H ds xs ∧ Post (gX X ca) E (bmD .index (.tup zs) ds S) μ H fun d2 _ μ' H' => ∀ v, Rep X.K μ' H' d2 v → Q v H' := by
  intro pins s σ H x xs v us Q I rx rxs h
  obtain ⟨μ, S, ds, r, hx, hxs, p⟩ := h
  match ds, p with
  | [.str z], p =>
    obtain ⟨y, rfl, hy⟩ := args1 hxs
    obtain rfl : y = .str z := hy
    have p : Post _ E (match strs? zs with | some l => ok? ((idxOf z l).map fun j : Nat => D.int j) S | none => .bad) μ H _ := p
    split at p <;> first | exact p.elim | skip
    rename_i l el
    obtain ⟨w, ew, q⟩ := p.ok? r
    obtain ⟨j, ej, rfl⟩ := Option.map_eq_some_iff.mp ew
    obtain ⟨a, vs, rfl, h2, h3⟩ := hx
    rw [strs_rep el h3] at h2
    obtain ⟨i1, i2⟩ := idx_ok ej
    exact mt_tup_index pins s σ H _ _ v us Q I rx rxs ⟨a, l, z, j, rfl, rfl, h2.sq, i1, i2, q _ rfl⟩
theorem m_upper {z : Str} : MtR X "str.upper" fun x xs H Q => ∃ μ S ds, Rel (gX X ca) μ S H ∧ Rep X.K μ H (.str z) x ∧ Reps X.K μ H ds xs ∧ Post (gX X ca) E (bmD .upper (.str z) ds S) μ H fun d2 _ μ' H' => ∀ v, Rep X.K μ' H' d2 v → Q v H' := by
  intro pins s σ H x xs v us Q I rx rxs h
  obtain ⟨μ, S, ds, r, hx, hxs, p⟩ := h
  match ds, p with
  | _ :: _, p => exact p.elim
  | [], p =>
    obtain rfl : xs = [] := hxs
    obtain rfl : x = .str z := hx
    have p : Post _ E (if z.length ≤ 5000000 then .ok (D.str (Txt.upper z)) S else .bad) μ H _ := p
    split at p
    · rename_i c
      exact mt_upper pins s σ H _ _ v us Q I rx rxs ⟨z, rfl, rfl, by omega, p.okI r _ rfl⟩
    · exact p.elim
theorem m_lower {z : Str} : MtR X "str.lower" fun x xs H Q => ∃ μ S ds, Rel (gX X ca) μ S H ∧ Rep X.K μ H (.str z) x ∧ Reps X.K μ H ds xs ∧ Post (gX X ca) E (bmD .lower (.str z) ds S) μ H fun d2 _ μ' H' => ∀ v, Rep X.K μ' H' d2 v → Q v H' := by
  intro pins s σ H x xs v us Q I rx rxs h
  obtain ⟨μ, S, ds, r, hx, hxs, p⟩ := h
  match ds, p with
  | _ :: _, p => exact p.elim
  | [], p =>
    obtain rfl : xs = [] := hxs
    obtain rfl : x = .str z := hx
    have p : Post _ E (if z.length ≤ 5000000 then .ok (D.str (Txt.lower z)) S else .bad) μ H _ := p
    split at p
    · rename_i c
      exact mt_lower pins s σ H _ _ v us Q I rx rxs ⟨z, rfl, rfl, by omega, p.okI r _ rfl⟩
    · exact p.elim
theorem m_insert {d0 : D} : MtR X "list.insert" fun x xs H Q => ∃ μ S ds, Rel (gX X ca) μ S H ∧ Rep X.K μ H d0 x ∧ Reps X.K μ H ds xs ∧ Post (gX X ca) E (bmD .insert d0 ds S) μ H fun d2 _ μ' H' => ∀ v, Rep X.K μ' H' d2 v → Q v H' := by
  intro pins s σ H x xs v us Q I rx rxs h
  obtain ⟨μ, S, ds, r, hx, hxs, p⟩ := h
  match ds, p with
  | [.int i, d], p =>
    obtain ⟨y, z, rfl, hy, hz⟩ := args2 hxs
    obtain rfl : y = .int i := hy
    obtain ⟨n, ys, a, vs, rfl, hs, ha, rfl, h1, h2, p⟩ := Post.lstDo (show Post _ E (lstDo d0 S fun n xs => if 0 ≤ i ∧ i < 2 ^ 63 ∧ xs.length < sizeLine then .ok .non (S.set n (.lst (xs.take i.toNat ++ [d] ++ xs.drop i.toNat))) else .bad) μ H _ from p) r hx
    split at p
    · rename_i c
      obtain ⟨q, e⟩ := Post.putL p r ha h1 (((h2.take i.toNat).app (Reps.one hz)).app (h2.drop i.toNat))
      exact mt_insert pins s σ H _ _ v us Q I rx rxs ⟨a, vs, i, z, rfl, rfl, h1, by rw [← h2.length]; exact c.2.2, c.1, c.2.1, q _ rfl⟩
    · exact p.elim
theorem reps_strs0 {K : PySem.W.Frag} {μ : List Addr} {H : Hp} : ∀ l : List Str, Reps K μ H (l.map D.str) (l.map V.str)
  | [] => rfl
  | x :: l => ⟨.str x, _, rfl, rfl, reps_strs0 l⟩
theorem m_split {z : Str} : MtR X "str.split" fun x xs H Q => ∃ μ S ds, Rel (gX X ca) μ S H ∧ Rep X.K μ H (.str z) x ∧ Reps X.K μ H ds xs ∧ Post (gX X ca) E (bmD .split (.str z) ds S) μ H fun d2 _ μ' H' => ∀ v, Rep X.K μ' H' d2 v → Q v H' := by
  intro pins s σ H x xs v us Q I rx rxs h
  obtain ⟨μ, S, ds, r, hx, hxs, p⟩ := h
  match ds, p with
  | [.str b], p =>
    obtain ⟨y, rfl, hy⟩ := args1 hxs
    obtain rfl : y = .str b := hy
    obtain rfl : x = .str z := hx
    have p : Post _ E (if (b.length == 0) = false ∧ z.length + 2 ≤ sizeLine then newC (.lst ((Txt.split z b).map .str)) S else .bad) μ H _ := p
    split at p
    · rename_i c
      exact mt_split pins s σ H _ _ v us Q I rx rxs ⟨z, b, rfl, rfl, c.1, c.2, fun t ht => Post.lst p r (reps_strs0 _) ht⟩
    · exact p.elim
theorem m_join {z : Str} : MtR X "str.join" fun x xs H Q => ∃ μ S ds, Rel (gX X ca) μ S H ∧ Rep X.K μ H (.str z) x ∧ Reps X.K μ H ds xs ∧ Post (gX X ca) E (bmD .join (.str z) ds S) μ H fun d2 _ μ' H' => ∀ v, Rep X.K μ' H' d2 v → Q v H' := by
  intro pins s σ H x xs v us Q I rx rxs h
  obtain ⟨μ, S, ds, r, hx, hxs, p⟩ := h
  match ds, p with
  | [], p => exact p.elim
  | _ :: _ :: _, p => exact p.elim
  | [d], p =>
    obtain ⟨y, rfl, hy⟩ := args1 hxs
    obtain rfl : x = .str z := hx
    have p : Post _ E (match seqOf S d with | some xs => (match strs? xs with | some l => if (l.map (·.length)).sum + l.length * z.length ≤ 16777216 then .ok (D.str (Txt.join z l)) S else .bad | none => .bad) | none => .bad) μ H _ := p
    split at p <;> first | exact p.elim | skip
    rename_i ys ey
    split at p <;> first | exact p.elim | skip
    rename_i l el
    split at p
    · rename_i c
      obtain ⟨a, vs, rfl, h1, h2⟩ := r.seqOf hy ey
      rw [strs_rep el h2] at h1
      exact mt_join pins s σ H _ _ v us Q I rx rxs ⟨z, a, l, rfl, rfl, h1, c, p.okI r _ rfl⟩
    · exact p.elim
theorem hasK_app (j k : Key) (ks : List Key) : hasK j (ks ++ [k]) = (hasK j ks || decide (j = k)) := by
  unfold hasK
  rw [List.any_append]
  simp only [List.any_cons, List.any_nil, Bool.or_false]
  congr 1
  exact decide_eq_decide.mpr ⟨fun e => e.symm, fun e => e.symm⟩
theorem hasK_mem {k : Key} {ks : List Key} : hasK k ks = true ↔ k ∈ ks := by
  unfold hasK
  rw [List.any_eq_true]
  constructor
  · rintro ⟨x, hx, e⟩
    rw [← of_decide_eq_true e]
    exact hx
  · intro h
    exact ⟨k, h, decide_eq_true rfl⟩
theorem addK_S (k j : Key) (ks : List Key) : hasK j (addK k ks) = (hasK j ks || decide (j = k)) := by
  unfold addK
  by_cases c : hasK k ks = true
  · rw [if_pos c]
    by_cases e : j = k
    · subst e
      rw [c]
      rfl
    · rw [decide_eq_false e, Bool.or_false]
  · rw [if_neg c]
    exact hasK_app j k ks
theorem addK_len (k : Key) (ks : List Key) : (addK k ks).length = if hasK k ks = true then ks.length else ks.length + 1 := by
  unfold addK
  split <;> simp
theorem addK_nd {k : Key} {ks : List Key} (h : ks.Nodup) : (addK k ks).Nodup := by
  unfold addK
  split
  · exact h
  · rename_i c
    rw [List.nodup_append]
    refine ⟨h, by simp, fun a ha b hb => ?_⟩
    rw [List.mem_singleton.mp hb]
    rintro rfl
    exact c (hasK_mem.mpr ha)
theorem m_add {n : Nat} : MtR X "set.add" fun x xs H Q => ∃ μ S ds, Rel (gX X ca) μ S H ∧ Rep X.K μ H (.loc n) x ∧ Reps X.K μ H ds xs ∧ Post (gX X ca) E (bmD .add (.loc n) ds S) μ H fun d2 _ μ' H' => ∀ v, Rep X.K μ' H' d2 v → Q v H' := by
  intro pins s σ H x xs v us Q I rx rxs h
  obtain ⟨μ, S, ds, r, hx, hxs, p⟩ := h
  match ds, p with
  | [], p => exact p.elim
  | _ :: _ :: _, p => exact p.elim
  | [d], p =>
    obtain ⟨y, rfl, hy⟩ := args1 hxs
    have p : Post _ E (match S[n]? with | some (.set ks) => (match D.key? d with | some k => if ks.length + 1 < 1000 then .ok D.non (S.set n (.set (addK k ks))) else .bad | none => .bad) | _ => .bad) μ H _ := p
    split at p <;> first | exact p.elim | skip
    rename_i ks hs
    split at p <;> first | exact p.elim | skip
    rename_i k hk
    split at p
    · rename_i c
      obtain ⟨a, ha, rfl⟩ := hx
      obtain ⟨h1, h2⟩ := r.at_ n a _ ha hs
      obtain rfl : y = kV k := key_rep hk hy
      have n1 : ∀ q u, H a ≠ some (.frz q u) := fun q xs e => by rw [h1] at e; cases e
      have eS : SetK X.prog X.w a (fun j => (hasK j ks || decide (j = k))) (if hasK k ks = true then ks.length else ks.length + 1) = SetK X.prog X.w a (fun j => hasK j (addK k ks)) (addK k ks).length := by
        rw [addK_len]
        congr 1
        funext j
        rw [addK_S]
      refine mt_saddK pins s σ H _ _ v us Q I rx rxs ⟨a, k, _, _, rfl, rfl, h1, by have : scanBound = 4096 := rfl; omega, ?_⟩
      rw [eS]
      exact p μ _ (Ext.put (List.mem_of_getElem? ha) n1) (r.put ha n1 ⟨upd_same, addK_nd h2⟩) _ rfl
    · exact p.elim
theorem m_get2 (hu : X.A.units + 100 < cLine) {n : Nat} : MtR X "dict.get" fun x xs H Q => ∃ μ S ds, Rel (gX X ca) μ S H ∧ Rep X.K μ H (.loc n) x ∧ Reps X.K μ H ds xs ∧ Post (gX X ca) E (bmD .get2 (.loc n) ds S) μ H fun d2 _ μ' H' => ∀ v, Rep X.K μ' H' d2 v → Q v H' := by
  intro pins s σ H x xs v us Q I rx rxs h
  obtain ⟨μ, S, ds, r, hx, hxs, p⟩ := h
  match ds, p with
  | [], p => exact p.elim
  | [_], p => exact p.elim
  | _ :: _ :: _ :: _, p => exact p.elim
  | [k, d], p =>
    obtain ⟨y, z, rfl, hy, hz⟩ := args2 hxs
    have p : Post _ E (match S[n]? with | some (.dct _ kvs) => ok? ((D.key? k).map fun q => (lookA q kvs).getD d) S | _ => .bad) μ H _ := p
    split at p <;> first | exact p.elim | skip
    rename_i lk kvs hs
    obtain ⟨w, ew, q⟩ := p.ok? r
    obtain ⟨kk, ek, rfl⟩ := Option.map_eq_some_iff.mp ew
    obtain ⟨b, hb, rfl⟩ := hx
    obtain ⟨kvs', h1, h2, h3⟩ := r.at_ n b _ hb hs
    have rd : Rd H b (.dK kvs') := by
      cases lk with
      | true => exact .inr h1
      | false => exact .inl h1
    cases rx
    obtain ⟨u1, u2, rfl, r1, r2⟩ := vals2 rxs
    refine d_get2 (d := z) (by omega) I (.inl ⟨kvs', kk, rd, key_rep ek hy, rfl⟩) r1 r2 fun w' s' I' rw' => ⟨_, H, I', rw', q _ ?_⟩
    have lr := look_rep (k := kk) h2 h3
    cases e1 : lookA kk kvs <;> cases e2 : valV kvs' kk <;> rw [e1, e2] at lr
    · exact hz
    · exact lr.elim
    · exact lr.elim
    · exact lr
end
end Iv

set_option maxRecDepth 10000
/-! Iv10: expressions, read by the interpreter. -/
namespace Iv
open PySem PySem.Spec PyProof.Rows L2
/-! ### argument lists -/
def nst : Expr → Bool
  | .Starred .. => false
  | _ => true
theorem star_cons {e : Expr} {es : List Expr} {env : PySem.Env} (h : nst e = true) : starEach (e :: es) env = (false, eval e env) :: starEach es env := by
  cases e <;> first | rfl | cases h
theorem star_any {pos : Pos} {env : PySem.Env} : ∀ {es : List Expr}, es.all nst = true → (backTo pos (starEach es env)).any (·.1) = false
  | [], _ => rfl
  | e :: es, h => by
    have q := Bool.and_eq_true_iff.mp h
    rw [star_cons q.1]
    show (false || (backTo pos (starEach es env)).any (·.1)) = false
    rw [star_any q.2]
    rfl
theorem star_all {pos : Pos} {env : PySem.Env} : ∀ {es : List Expr}, es.all nst = true → (backTo pos (starEach es env)).all (fun x => !x.1) = true
  | [], _ => rfl
  | e :: es, h => by
    have q := Bool.and_eq_true_iff.mp h
    rw [star_cons q.1]
    show (true && (backTo pos (starEach es env)).all (fun x => !x.1)) = true
    rw [star_all q.2]
    rfl
theorem few_ok {pos : Pos} {env : PySem.Env} {es : List Expr} (h : es.all nst = true) (hl : es.length < 20) :
    ((backTo pos (starEach es env)).all (fun x => !x.1) && (backToKw pos (keywordEach [] env)).all (fun x => x.1.isSome) && decide (es.length + ([] : List Keyword).length + (if ([] : List Keyword).isEmpty then 0 else 1) < 30)) = true := by
  rw [star_all h]
  show (true && true && decide (es.length + 0 + 0 < 30)) = true
  simp only [Bool.and_self, Bool.true_and, decide_eq_true_eq]
  omega
section
variable {X : Cx} {ca : Nat → Addr} {E : XK} {F : Fns}
theorem a_nil : PA X [] (tEs (gX X ca) E F .nil) := by
  refine PA.imp pa_nil fun σ H Q q => ?_
  obtain ⟨μ, ρ, S, r, sl, p⟩ := q
  exact Post.okI (show Post _ E (.ok ([] : List D) S) μ H _ from p) r [] rfl
theorem a_cons {e : Expr} {es : List Expr} {ie : IE} {ies : IEs} (he : PE X e (tE (gX X ca) E F ie)) (hes : PA X es (tEs (gX X ca) E F ies)) (h : nst e = true) : PA X (e :: es) (tEs (gX X ca) E F (.cons ie ies)) := by
  refine PA.imp (pa_cons he hes (star_cons h)) fun σ H Q q => ?_
  obtain ⟨μ, ρ, S, r, sl, p⟩ := q
  have p : Post _ E ((evE F ie ρ S).bind fun d S1 => (evEs F ies ρ S1).bind fun ds S2 => .ok (d :: ds) S2) μ H _ := p
  refine one r sl p fun x H1 d S1 μ1 e1 r1 hx p1 => ?_
  refine many r1 (sl.mono e1) p1 fun xs H2 ds S2 μ2 e2 r2 hxs p2 => ?_
  exact p2.okI r2 (x :: xs) ⟨x, xs, rfl, hx.mono e2, hxs⟩

/-! ### operators, displays -/
theorem e_bin {op : Operator} {a b : Expr} {ia ib : IE} {pos : Pos} (ha : PE X a (tE (gX X ca) E F ia)) (hb : PE X b (tE (gX X ca) E F ib)) : PE X (.BinOp a op b pos) (tE (gX X ca) E F (.bin op ia ib)) := by
  refine PE.imp (pe_op (op_bin (ca := ca) (E := E)) ha hb) fun σ H Q q => ?_
  obtain ⟨μ, ρ, S, r, sl, p⟩ := q
  exact two r sl p fun x y H2 d d' S2 μ2 _ r2 hx hy p2 => ⟨μ2, S2, d, d', r2, hx, hy, p2⟩
theorem e_neg {a : Expr} {ia : IE} {pos : Pos} (ha : PE X a (tE (gX X ca) E F ia)) : PE X (.UnaryOp .USub a pos) (tE (gX X ca) E F (.neg ia)) := by
  refine PE.imp (pe_un un_neg ha) fun σ H Q q => ?_
  obtain ⟨μ, ρ, S, r, sl, p⟩ := q
  have p : Post _ E ((evE F ia ρ S).bind fun x S1 => match x with | .int i => .ok (D.int (-i)) S1 | _ => .bad) μ H _ := p
  refine one r sl p fun x H1 d S1 μ1 e1 r1 hx p1 => ?_
  cases d with
  | int i => exact ⟨i, hx, p1.okI r1 _ rfl⟩
  | _ => exact p1.elim
theorem e_cmp (hu : X.A.units + 100 < cLine) {op : CmpOp} {a b : Expr} {ia ib : IE} {pos : Pos} (ha : PE X a (tE (gX X ca) E F ia)) (hb : PE X b (tE (gX X ca) E F ib)) (hm : behindInMarks op b = false) : PE X (.Compare a [op] [b] pos) (tE (gX X ca) E F (.cmp op ia ib)) := by
  refine PE.imp (pe_cmpR (op_cmp (ca := ca) (E := E) hu) ha hb hm) fun σ H Q q => ?_
  obtain ⟨μ, ρ, S, r, sl, p⟩ := q
  exact two r sl p fun x y H2 d d' S2 μ2 _ r2 hx hy p2 => ⟨μ2, S2, d, d', r2, hx, hy, p2⟩
theorem e_ix (hu : X.A.units + 100 < cLine) {a b : Expr} {ia ib : IE} {pos : Pos} (ha : PE X a (tE (gX X ca) E F ia)) (hb : PE X b (tE (gX X ca) E F ib)) (hs : PlainIx b) : PE X (.Subscript a b pos) (tE (gX X ca) E F (.ix ia ib)) := by
  refine PE.imp (pe_ix (ix_all (ca := ca) (E := E) hu) ha hb hs) fun σ H Q q => ?_
  obtain ⟨μ, ρ, S, r, sl, p⟩ := q
  exact two r sl p fun x y H2 d d' S2 μ2 _ r2 hx hy p2 => ⟨μ2, S2, d, d', r2, hx, hy, p2⟩
def tEo (g : G) (E : XK) (F : Fns) (o : IO) : TO := fun σ H Q => ∃ μ ρ S, Rel g μ S H ∧ Slots g.K μ H σ ρ ∧ Post g E (evO F o ρ S) μ H fun i _ _ H' => Q i H'
theorem o_none : PO X none (tEo (gX X ca) E F .none) := by
  refine ⟨fun pins s σ H Q I q => po_none.run pins s σ H Q I ?_⟩
  obtain ⟨μ, ρ, S, r, sl, p⟩ := q
  exact Post.okI (show Post _ E (.ok (none : Option Int) S) μ H _ from p) r
theorem o_some {e : Expr} {ie : IE} (he : PE X e (tE (gX X ca) E F ie)) : PO X (some e) (tEo (gX X ca) E F (.some ie)) := by
  refine ⟨fun pins s σ H Q I q => (po_some he).run pins s σ H Q I ?_⟩
  obtain ⟨μ, ρ, S, r, sl, p⟩ := q
  have p : Post _ E ((evE F ie ρ S).bind fun x S1 => match x with | .int i => .ok (some i) S1 | _ => .bad) μ H _ := p
  refine one r sl p fun x H1 d S1 μ1 e1 r1 hx p1 => ?_
  cases d with
  | int i => exact ⟨i, hx, p1.okI r1⟩
  | _ => exact p1.elim
theorem part {α : Type} {o : IO} {μ : List Addr} {H : Hp} {S : Store} {σ : L2.St} {ρ : Env} {k : Option Int → Store → Out α} {R : α → Store → List Addr → Hp → Prop} {Q : Option Int → Hp → Prop} {g : G} (r : Rel g μ S H) (sl : Slots g.K μ H σ ρ) (p : Post g E ((evO F o ρ S).bind k) μ H R)
    (h : ∀ i H1 S1 μ1, Ext g.K μ μ1 H H1 → Rel g μ1 S1 H1 → Post g E (k i S1) μ1 H1 R → Q i H1) : tEo g E F o σ H Q :=
  ⟨μ, ρ, S, r, sl, p.bind.imp fun i S1 μ1 H1 e r1 q => h i H1 S1 μ1 e r1 q⟩
theorem e_slc {a : Expr} {ia : IE} {lo hi : Option Expr} {ilo ihi : IO} {pos p2 : Pos} (ha : PE X a (tE (gX X ca) E F ia)) (hl : PO X lo (tEo (gX X ca) E F ilo)) (hh : PO X hi (tEo (gX X ca) E F ihi)) :
    PE X (.Subscript a (.Slice lo hi none p2) pos) (tE (gX X ca) E F (.slc ia ilo ihi)) := by
  refine PE.imp (pe_slice (sl_all (ca := ca) (E := E)) ha hl hh) fun σ H Q q => ?_
  obtain ⟨μ, ρ, S, r, sl, p⟩ := q
  have p : Post _ E ((evE F ia ρ S).bind fun x S1 => (evO F ilo ρ S1).bind fun l S2 => (evO F ihi ρ S2).bind fun h S3 => slD x l h S3) μ H _ := p
  refine one r sl p fun x H1 d S1 μ1 e1 r1 hx p1 => ?_
  refine part r1 (sl.mono e1) p1 fun l H2 S2 μ2 e2 r2 p2 => ?_
  refine part r2 ((sl.mono e1).mono e2) p2 fun h H3 S3 μ3 e3 r3 p3 => ?_
  exact ⟨μ3, S3, d, r3, (hx.mono e2).mono e3, p3⟩
theorem e_lst {es : List Expr} {ies : IEs} {pos : Pos} (h : PA X es (tEs (gX X ca) E F ies)) : PE X (.List es pos) (tE (gX X ca) E F (.lst ies)) := by
  refine PE.imp (pe_lst h) fun σ H Q q => ?_
  obtain ⟨μ, ρ, S, r, sl, p⟩ := q
  have p : Post _ E ((evEs F ies ρ S).bind fun ds S1 => if ds.length ≤ sizeLine then newC (.lst ds) S1 else .bad) μ H _ := p
  refine many r sl p fun xs H1 ds S1 μ1 e1 r1 hxs p1 => ?_
  by_cases c : ds.length ≤ sizeLine
  · rw [if_pos c] at p1
    exact ⟨by rw [← hxs.length]; exact c, fun t ht => Post.lst p1 r1 hxs ht⟩
  · rw [if_neg c] at p1
    exact p1.elim
/-- a tuple display: the tuple is known to bear no dict -/
theorem e_tup {es : List Expr} {ies : IEs} {x1 : Nat} {pos : Pos} (h : PA X es (tEs (gX X ca) E F ies)) : PE X (.Tuple es x1 pos) (tE (gX X ca) E F (.tup ies)) := by
  refine ⟨fun pins s σ H Q I q => ?_⟩
  obtain ⟨μ, ρ, S, r, sl, p⟩ := q
  have p : Post _ E ((evEs F ies ρ S).bind fun ds S1 => if ds.length ≤ sizeLine then .ok (D.tup ds) S1 else .bad) μ H _ := p
  refine wpAny_Tuple_spliced (thn (h.run pos pins s σ H (fun xs H1 => ∃ μ1 S1 ds, Rel (gX X ca) μ1 S1 H1 ∧ Reps X.K μ1 H1 ds xs ∧ ds.length ≤ sizeLine ∧ Post (gX X ca) E (.ok (D.tup ds) S1) μ1 H1 fun d2 _ μ' H' => ∀ v, Rep X.K μ' H' d2 v → Q v H') I
    (many r sl p fun xs H1 ds S1 μ1 e1 r1 hxs p1 => ?_)) fun us s1 ⟨xs, H1, I1, rv, μ1, S1, ds, r1, hxs, z, p1⟩ => ?_)
  · by_cases c : ds.length ≤ sizeLine
    · rw [if_pos c] at p1
      exact ⟨μ1, S1, ds, r1, hxs, c, p1⟩
    · rw [if_neg c] at p1
      exact p1.elim
  · have hz : xs.length ≤ sizeLine := by rw [← hxs.length]; exact z
    refine ⟨by rw [← rv.length]; exact hz, ?_⟩
    obtain ⟨hh, gs, dd, tk, os⟩ := s1
    exact EP.tup I1 rv hz p1 r1 hxs
/-- a call of a built-in function, a built-in type -/
theorem e_bfn {id : String} {x : Str} {b : Bf} {e : Expr} {es : List Expr} {ies : IEs} {p pos : Pos} (hc : CallR X (.builtin id) (rN (gX X ca) E (bfD b))) (hg : Gl X x) (hm : X.mg x = none) (hv : bootBuiltins x = some (.builtin id)) (ha : PA X (e :: es) (tEs (gX X ca) E F ies)) (hn : x ≠ "__name__")
    (hd : (x == ("__debug__" : Str)) = false) (hs : (e :: es).all nst = true) : PE X (.Call (.Name x p) (e :: es) [] pos) (tE (gX X ca) E F (.bf b ies)) := by
  have q := Bool.and_eq_true_iff.mp hs
  refine PE.imp (pe_callB hc hg hm hv ha hn hd (star_cons q.1) (star_any q.2)) fun σ H Q q => ?_
  obtain ⟨μ, ρ, S, r, sl, p⟩ := q
  exact many r sl p fun xs H1 ds S1 μ1 e1 r1 hxs p1 => ⟨μ1, S1, ds, r1, hxs, p1⟩
theorem e_bty {T : String} {x : Str} {b : Bf} {e : Expr} {es : List Expr} {ies : IEs} {p pos : Pos} (hc : CallR X (.type T) (rN (gX X ca) E (bfD b))) (hg : Gl X x) (hm : X.mg x = none) (hv : bootBuiltins x = some (.type T)) (ha : PA X (e :: es) (tEs (gX X ca) E F ies)) (hn : x ≠ "__name__")
    (hd : (x == ("__debug__" : Str)) = false) (hs : (e :: es).all nst = true) : PE X (.Call (.Name x p) (e :: es) [] pos) (tE (gX X ca) E F (.bf b ies)) := by
  have q := Bool.and_eq_true_iff.mp hs
  refine PE.imp (pe_callTy hc hg hm hv ha hn hd (star_cons q.1) (star_any q.2)) fun σ H Q q => ?_
  obtain ⟨μ, ρ, S, r, sl, p⟩ := q
  exact many r sl p fun xs H1 ds S1 μ1 e1 r1 hxs p1 => ⟨μ1, S1, ds, r1, hxs, p1⟩
/-- a call of a method of a built-in type -/
theorem bm_at (hu : X.A.units + 100 < cLine) {m : Bm} {d : D} {v : Value} {x : V} {pins : List (Addr × Obj)} {s : Shared} {σ : L2.St} {H : Hp} {μ : List Addr} {S : Store} (I : Inv X pins σ H s) (r : Rel (gX X ca) μ S H) (rx : RelV x v) (hx : Rep X.K μ H d x) (k : bmK m d S = true) : BmAt X ca E m d v s := by
  cases d with
  | str z =>
    obtain rfl : x = .str z := hx
    obtain ⟨t, rfl⟩ := rx
    cases m <;> first | cases k | skip
    · exact ⟨"str", "str.upper", PySem.F.plainAttrs_str, PySem.F.slot_str_upper, PySem.F.type_str_upper, typeIs_str s z t, (fun _ e => nomatch e), m_upper⟩
    · exact ⟨"str", "str.lower", PySem.F.plainAttrs_str, PySem.F.slot_str_lower, PySem.F.type_str_lower, typeIs_str s z t, (fun _ e => nomatch e), m_lower⟩
    · exact ⟨"str", "str.join", PySem.F.plainAttrs_str, PySem.F.slot_str_join, PySem.F.type_str_join, typeIs_str s z t, (fun _ e => nomatch e), m_join⟩
    · exact ⟨"str", "str.split", PySem.F.plainAttrs_str, PySem.F.slot_str_split, PySem.F.type_str_split, typeIs_str s z t, (fun _ e => nomatch e), m_split⟩
  | tup zs =>
    obtain ⟨a, vs, rfl, h1, h2⟩ := hx
    cases rx
    cases m <;> first | cases k | skip
    exact ⟨"tuple", "tuple.index", PySem.F.plainAttrs_tuple, PySem.F.slot_tuple_index, PySem.F.type_tuple_index, (tup_type I h1).1, (tup_type I h1).2, m_indexT⟩
  | loc n =>
    have hx0 := hx
    obtain ⟨a, ha, rfl⟩ := hx
    cases rx
    cases hs : S[n]? with
    | none =>
      simp only [bmK, hs] at k
      cases k
    | some c =>
      have ok := r.at_ n a c ha hs
      simp only [bmK, hs] at k
      cases c with
      | lst ys =>
        obtain ⟨vs, h1, h2⟩ := ok
        cases m <;> first | cases k | skip
        · exact list_meth I h1 PySem.F.slot_list_append PySem.F.type_list_append m_append
        · exact list_meth I h1 PySem.F.slot_list_pop PySem.F.type_list_pop m_pop
        · exact list_meth I h1 PySem.F.slot_list_pop PySem.F.type_list_pop m_popAt
        · exact list_meth I h1 PySem.F.slot_list_insert PySem.F.type_list_insert m_insert
        · exact list_meth I h1 PySem.F.slot_list_index PySem.F.type_list_index (m_indexL fun ys e => nomatch e)
      | set ks =>
        obtain ⟨h1, h2⟩ := ok
        have hS := setK_get I h1
        cases m <;> first | cases k | skip
        exact ⟨"set", "set.add", PySem.F.plainAttrs_set, PySem.F.slot_set_add, PySem.F.type_set_add, hS.typeIs, hS.noDict, m_add⟩
      | dct lk kvs =>
        obtain ⟨kvs', h1, _, _⟩ := ok
        have rd : Rd H a (.dK kvs') := by
          cases lk with
          | true => exact .inr h1
          | false => exact .inl h1
        obtain ⟨z1, z2, vs, rel, dd⟩ := dk_rd I.hok rd
        cases m <;> first | cases k | skip
        obtain ⟨o, es, ep, g1, g2, g3⟩ := id dd
        exact ⟨"dict", "dict.get", PySem.F.plainAttrs_dict, PySem.F.slot_dict_get, PySem.F.type_dict_get, dd.typeIs, fun b e => by cases e; exact ⟨o, g1, g2.2.1⟩, m_get2 hu⟩
      | dtp _ => cases m <;> cases k
      | ins _ _ => cases m <;> cases k
  | _ => cases k
theorem e_bm (hu : X.A.units + 100 < cLine) {m : Bm} {o e : Expr} {io : IE} {es : List Expr} {ies : IEs} {apos cpos : Pos} (ho : PE X o (tE (gX X ca) E F io)) (ha : PA X (e :: es) (tEs (gX X ca) E F ies))
    (hbase : attributeBase o m.name X.env (eval o X.env) = eval o X.env) (hline : (apos.endLine == cpos.line) = true) (hs : (e :: es).all nst = true) (hl : (e :: es).length < 20) : PE X (.Call (.Attribute o m.name apos) (e :: es) [] cpos) (tE (gX X ca) E F (.bm m io ies)) := by
  refine ⟨fun pins s σ H Q I q => ?_⟩
  obtain ⟨μ, ρ, S, r, sl, p⟩ := q
  have p : Post _ E ((evE F io ρ S).bind fun x S1 => if bmK m x S1 then (evEs F ies ρ S1).bind fun ds S2 => bmD m x ds S2 else .bad) μ H _ := p
  refine wpAny_Call_method_late hbase (few_ok hs hl) hline rfl (thn (ho.run pins s σ H (fun x H1 => ∃ μ1 S1 d, Rel (gX X ca) μ1 S1 H1 ∧ Rep X.K μ1 H1 d x ∧ Ext X.K μ μ1 H H1 ∧ bmK m d S1 = true ∧
    Post (gX X ca) E ((evEs F ies ρ S1).bind fun ds S2 => bmD m d ds S2) μ1 H1 fun d2 _ μ' H' => ∀ v, Rep X.K μ' H' d2 v → Q v H') I (one r sl p fun x H1 d S1 μ1 e1 r1 hx p1 => ?_)) fun v s1 ⟨x, H1, I1, rx, μ1, S1, d, r1, hx, e1, k, p1⟩ => ?_)
  · by_cases k : bmK m d S1 = true
    · rw [if_pos k] at p1
      exact ⟨μ1, S1, d, r1, hx, e1, k, p1⟩
    · rw [if_neg k] at p1
      exact p1.elim
  · obtain ⟨T, id, pa, slot, ty, h1, h2, hm⟩ := (bm_at (E := E) hu I1 r1 rx hx k).ex
    refine ⟨T, id, pa, slot, ty, h1, h2, ?_⟩
    have hA := ha.run cpos pins s1 σ H1 (fun xs H2 => ∃ μ2 S2 ds, Rel (gX X ca) μ2 S2 H2 ∧ Rep X.K μ2 H2 d x ∧ Reps X.K μ2 H2 ds xs ∧ Post (gX X ca) E (bmD m d ds S2) μ2 H2 fun d2 _ μ' H' => ∀ v, Rep X.K μ' H' d2 v → Q v H') I1
      (many r1 (sl.mono e1) p1 fun xs H2 ds S2 μ2 e2 r2 hxs p2 => ⟨μ2, S2, ds, r2, hx.mono e2, hxs, p2⟩)
    have q := Bool.and_eq_true_iff.mp hs
    rw [star_cons q.1] at hA ⊢
    refine Calls.callWith_builtin (by show (false || (backTo cpos (starEach es X.env)).any (·.1)) = false; rw [star_any q.2]; rfl) (Calls.evalArgs_plain ?_)
    exact thn hA fun us s2 ⟨xs, H2, I2, r2, q2⟩ => hm pins s2 σ H2 x xs v us Q I2 rx r2 q2
theorem e_bm0 (hu : X.A.units + 100 < cLine) {m : Bm} {o : Expr} {io : IE} {apos cpos : Pos} (ho : PE X o (tE (gX X ca) E F io))
    (hbase : attributeBase o m.name X.env (eval o X.env) = eval o X.env) (hline : (apos.endLine == cpos.line) = true) : PE X (.Call (.Attribute o m.name apos) [] [] cpos) (tE (gX X ca) E F (.bm m io .nil)) := by
  refine ⟨fun pins s σ H Q I q => ?_⟩
  obtain ⟨μ, ρ, S, r, sl, p⟩ := q
  have p : Post _ E ((evE F io ρ S).bind fun x S1 => if bmK m x S1 then (Out.ok ([] : List D) S1).bind fun ds S2 => bmD m x ds S2 else .bad) μ H _ := p
  refine wpAny_Call_method0_late hbase hline (thn (ho.run pins s σ H (fun x H1 => ∃ μ1 S1 d, Rel (gX X ca) μ1 S1 H1 ∧ Rep X.K μ1 H1 d x ∧ bmK m d S1 = true ∧
    Post (gX X ca) E (bmD m d [] S1) μ1 H1 fun d2 _ μ' H' => ∀ v, Rep X.K μ' H' d2 v → Q v H') I (one r sl p fun x H1 d S1 μ1 e1 r1 hx p1 => ?_)) fun v s1 ⟨x, H1, I1, rx, μ1, S1, d, r1, hx, k, p1⟩ => ?_)
  · by_cases k : bmK m d S1 = true
    · rw [if_pos k] at p1
      exact ⟨μ1, S1, d, r1, hx, k, p1⟩
    · rw [if_neg k] at p1
      exact p1.elim
  · obtain ⟨T, id, pa, slot, ty, h1, h2, hm⟩ := (bm_at (E := E) hu I1 r1 rx hx k).ex
    exact ⟨T, id, pa, slot, ty, h1, h2, Calls.callWith_builtin rfl (PySem.evalArgs_none (hm pins s1 σ H1 x [] v [] Q I1 rx .nil ⟨μ1, S1, [], r1, hx, rfl, p1⟩))⟩
end
end Iv

set_option maxRecDepth 10000
/-! Iv11: tests, and, or, not; calls of own defs. -/
namespace Iv
open PySem PySem.Spec PyProof.Rows L2
def tT (g : G) (E : XK) (F : Fns) (e : IE) : TT := fun σ H Q => ∃ μ ρ S, Rel g μ S H ∧ Slots g.K μ H σ ρ ∧ Post g E ((evE F e ρ S).bind truO) μ H fun k _ _ H' => Q k H'
/-- an expression whose test is its value's -/
def plainT : Expr → Bool
  | .BoolOp .. | .UnaryOp .. | .Compare .. | .IfExp .. => false
  | _ => true
section
variable {X : Cx} {ca : Nat → Addr} {E : XK} {F : Fns}
theorem plain_test {e : Expr} {env : PySem.Env} (h : plainT e = true) : ∀ whole, isTrue e env whole = (do let v ← whole; standAt e.pos; holding [v] (truthy v)) := by
  intro whole
  cases e <;> first | rfl | cases h
theorem tru_rep {μ : List Addr} {H : Hp} {S : Store} {d : D} {x : V} {k : Bool} (r : Rel (gX X ca) μ S H) (h : Rep X.K μ H d x) (e : tru S d = some k) : TruV X.K x H k := by
  cases d with
  | non =>
    obtain rfl : x = .non := h
    cases e
    rfl
  | bl b =>
    obtain rfl : x = .bl b := h
    cases e
    rfl
  | int i =>
    obtain rfl : x = .int i := h
    cases e
    rfl
  | str z =>
    obtain rfl : x = .str z := h
    have e : (if z.length ≤ sizeLine then some (z.length != 0) else none) = some k := e
    by_cases c : z.length ≤ sizeLine
    · rw [if_pos c] at e
      cases e
      exact ⟨c, by rw [Bool.eq_iff_iff]; simp⟩
    · rw [if_neg c] at e
      cases e
  | tup xs =>
    obtain ⟨a, vs, rfl, h1, h2⟩ := h
    cases e
    refine .inr (.inl ⟨vs, h1.sq, ?_⟩)
    have := h2.length
    cases xs <;> cases vs <;> simp_all
  | rol xs =>
    obtain ⟨a, vs, rfl, h1, h2⟩ := h
    cases e
    refine .inl ⟨vs, h1.sq, ?_⟩
    have := h2.length
    cases xs <;> cases vs <;> simp_all
  | loc n =>
    simp only [tru] at e
    split at e
    · rename_i xs hs
      cases e
      obtain ⟨a, vs, _, rfl, h1, h2⟩ := r.lstAt h hs
      refine .inl ⟨vs, .of h1, ?_⟩
      have := h2.length
      cases xs <;> cases vs <;> simp_all
    · cases e
theorem t_of_e {e : Expr} {ie : IE} (he : PE X e (tE (gX X ca) E F ie)) (h : plainT e = true) : PT X e (tT (gX X ca) E F ie) := by
  refine PT.imp (pt_truth he (plain_test h)) fun σ H Q q => ?_
  obtain ⟨μ, ρ, S, r, sl, p⟩ := q
  refine one r sl p fun x H1 d S1 μ1 e1 r1 hx p1 => ?_
  obtain ⟨k, ek, q⟩ := Post.ok? (show Post _ E (ok? (tru S1 d) S1) μ1 H1 _ from p1) r1
  exact ⟨k, tru_rep r1 hx ek, q⟩
theorem t_cmp (hu : X.A.units + 100 < cLine) {op : CmpOp} {a b : Expr} {ia ib : IE} {pos : Pos} (ha : PE X a (tE (gX X ca) E F ia)) (hb : PE X b (tE (gX X ca) E F ib)) (hm : behindInMarks op b = false) : PT X (.Compare a [op] [b] pos) (tT (gX X ca) E F (.cmp op ia ib)) := by
  refine PT.imp (pt_cmpR (op_cmp (ca := ca) (E := E) hu) ha hb hm) fun σ H Q q => ?_
  obtain ⟨μ, ρ, S, r, sl, p⟩ := q
  have p : Post _ E (((evE F ia ρ S).bind fun x S1 => (evE F ib ρ S1).bind fun y S2 => ok? ((cmpD op x y S2).map D.bl) S2).bind truO) μ H _ := p
  rw [show ∀ {α β γ : Type} (o : Out α) (f : α → Store → Out β) (k : β → Store → Out γ), (o.bind f).bind k = o.bind fun a S => (f a S).bind k from fun o f k => by cases o <;> rfl] at p
  refine one r sl p fun x H1 d S1 μ1 e1 r1 hx p1 => ?_
  rw [show ∀ {α β γ : Type} (o : Out α) (f : α → Store → Out β) (k : β → Store → Out γ), (o.bind f).bind k = o.bind fun a S => (f a S).bind k from fun o f k => by cases o <;> rfl] at p1
  refine one r1 (sl.mono e1) p1 fun y H2 d' S2 μ2 e2 r2 hy p2 => ?_
  refine ⟨μ2, S2, d, d', r2, hx.mono e2, hy, ?_⟩
  cases hc : cmpD op d d' S2 with
  | none => rw [hc] at p2; exact p2.elim
  | some k =>
    rw [hc] at p2
    show Post _ E (ok? ((cmpD op d d' S2).map D.bl) S2) μ2 H2 _
    rw [hc]
    intro μ' H' e' r' v hv
    obtain rfl : v = .bl k := hv
    exact ⟨k, rfl, Post.okI (show Post _ E (.ok k S2) μ' H' _ from p2.pre e') r'⟩
theorem Out.assoc {α β γ : Type} (o : Out α) (f : α → Store → Out β) (k : β → Store → Out γ) : (o.bind f).bind k = o.bind fun a S => (f a S).bind k := by cases o <;> rfl
theorem blO_eq {d : D} {S : Store} {α : Type} {g : G} {μ : List Addr} {H : Hp} {k : Bool → Store → Out α} {R : α → Store → List Addr → Hp → Prop} (p : Post g E ((blO d S).bind k) μ H R) : ∃ b, d = .bl b ∧ Post g E (k b S) μ H R := by
  cases d with
  | bl b => exact ⟨b, rfl, p⟩
  | _ => exact p.elim
/-! ### not -/
theorem e_not {a : Expr} {ia : IE} {pos : Pos} (ha : PE X a (tE (gX X ca) E F ia)) : PE X (.UnaryOp .Not a pos) (tE (gX X ca) E F (.not ia)) := by
  refine PE.imp (pe_not ha) fun σ H Q q => ?_
  obtain ⟨μ, ρ, S, r, sl, p⟩ := q
  have p : Post _ E ((evE F ia ρ S).bind fun x S1 => (blO x S1).bind fun k _ => .ok (D.bl (!k)) S1) μ H _ := p
  refine one r sl p fun x H1 d S1 μ1 e1 r1 hx p1 => ?_
  obtain ⟨b, rfl, p2⟩ := blO_eq p1
  exact ⟨b, hx, p2.okI r1 _ rfl⟩
theorem t_not {a : Expr} {ia : IE} {pos : Pos} (ha : PT X a (tT (gX X ca) E F ia)) : PT X (.UnaryOp .Not a pos) (tT (gX X ca) E F (.not ia)) := by
  refine PT.imp (pt_not ha) fun σ H Q q => ?_
  obtain ⟨μ, ρ, S, r, sl, p⟩ := q
  have p : Post _ E (((evE F ia ρ S).bind fun x S1 => (blO x S1).bind fun k _ => .ok (D.bl (!k)) S1).bind truO) μ H _ := p
  rw [Out.assoc] at p
  refine ⟨μ, ρ, S, r, sl, ?_⟩
  cases ho : evE F ia ρ S with
  | ok d S1 =>
    rw [ho] at p
    cases d with
    | bl b => exact p
    | _ => exact p.elim
  | ex c fs S1 => rw [ho] at p; exact p
  | bad => rw [ho] at p; exact p
/-! ### and, or -/
theorem e_and {a b : Expr} {es : List Expr} {ia ib : IE} {pos : Pos} (ha : PE X a (tE (gX X ca) E F ia)) (hb : PE X (.BoolOp .And (b :: es) pos) (tE (gX X ca) E F ib)) : PE X (.BoolOp .And (a :: b :: es) pos) (tE (gX X ca) E F (.and ia ib)) := by
  refine PE.imp (pe_and ha hb) fun σ H Q q => ?_
  obtain ⟨μ, ρ, S, r, sl, p⟩ := q
  have p : Post _ E ((evE F ia ρ S).bind fun x S1 => (blO x S1).bind fun k _ => if k then evE F ib ρ S1 else .ok (D.bl false) S1) μ H _ := p
  refine one r sl p fun x H1 d S1 μ1 e1 r1 hx p1 => ?_
  obtain ⟨k, rfl, p2⟩ := blO_eq p1
  refine ⟨k, hx, ?_⟩
  cases k with
  | true => exact iteT ⟨μ1, ρ, S1, r1, sl.mono e1, p2⟩
  | false => exact iteF (Post.okI (show Post _ E (.ok (D.bl false) S1) μ1 H1 _ from p2) r1 _ rfl)
theorem e_or {a b : Expr} {es : List Expr} {ia ib : IE} {pos : Pos} (ha : PE X a (tE (gX X ca) E F ia)) (hb : PE X (.BoolOp .Or (b :: es) pos) (tE (gX X ca) E F ib)) : PE X (.BoolOp .Or (a :: b :: es) pos) (tE (gX X ca) E F (.or ia ib)) := by
  refine PE.imp (pe_or ha hb) fun σ H Q q => ?_
  obtain ⟨μ, ρ, S, r, sl, p⟩ := q
  have p : Post _ E ((evE F ia ρ S).bind fun x S1 => (blO x S1).bind fun k _ => if k then .ok (D.bl true) S1 else evE F ib ρ S1) μ H _ := p
  refine one r sl p fun x H1 d S1 μ1 e1 r1 hx p1 => ?_
  obtain ⟨k, rfl, p2⟩ := blO_eq p1
  refine ⟨k, hx, ?_⟩
  cases k with
  | false => exact iteF ⟨μ1, ρ, S1, r1, sl.mono e1, p2⟩
  | true => exact iteT (Post.okI (show Post _ E (.ok (D.bl true) S1) μ1 H1 _ from p2) r1 _ rfl)
theorem PW.imp {e : Expr} {t t' : TT} (h : PW X e t) (i : ∀ σ H Q, t' σ H Q → t σ H Q) : PW X e t' := ⟨fun wh pins s σ H Q I q => h.run wh pins s σ H Q I (i σ H Q q)⟩
theorem w_and {a b : Expr} {es : List Expr} {ia ib : IE} {pos : Pos} (ha : PT X a (tT (gX X ca) E F ia)) (hb : PW X (.BoolOp .And (b :: es) pos) (tT (gX X ca) E F ib)) : PW X (.BoolOp .And (a :: b :: es) pos) (tT (gX X ca) E F (.and ia ib)) := by
  refine PW.imp (pw_and ha hb) fun σ H Q q => ?_
  obtain ⟨μ, ρ, S, r, sl, p⟩ := q
  have p : Post _ E (((evE F ia ρ S).bind fun x S1 => (blO x S1).bind fun k _ => if k then evE F ib ρ S1 else .ok (D.bl false) S1).bind truO) μ H _ := p
  rw [Out.assoc] at p
  refine ⟨μ, ρ, S, r, sl, ?_⟩
  cases ho : evE F ia ρ S with
  | ok d S1 =>
    rw [ho] at p
    cases d with
    | bl k =>
      intro μ1 H1 e1 r1
      cases k with
      | true => exact iteT ⟨μ1, ρ, S1, r1, sl.mono e1, Post.pre e1 p⟩
      | false => exact iteF (Post.okI (show Post _ E (.ok false S1) μ1 H1 _ from Post.pre e1 p) r1)
    | _ => exact p.elim
  | ex c fs S1 => rw [ho] at p; exact p
  | bad => rw [ho] at p; exact p
theorem w_or {a b : Expr} {es : List Expr} {ia ib : IE} {pos : Pos} (ha : PT X a (tT (gX X ca) E F ia)) (hb : PW X (.BoolOp .Or (b :: es) pos) (tT (gX X ca) E F ib)) : PW X (.BoolOp .Or (a :: b :: es) pos) (tT (gX X ca) E F (.or ia ib)) := by
  refine PW.imp (pw_or ha hb) fun σ H Q q => ?_
  obtain ⟨μ, ρ, S, r, sl, p⟩ := q
  have p : Post _ E (((evE F ia ρ S).bind fun x S1 => (blO x S1).bind fun k _ => if k then .ok (D.bl true) S1 else evE F ib ρ S1).bind truO) μ H _ := p
  rw [Out.assoc] at p
  refine ⟨μ, ρ, S, r, sl, ?_⟩
  cases ho : evE F ia ρ S with
  | ok d S1 =>
    rw [ho] at p
    cases d with
    | bl k =>
      intro μ1 H1 e1 r1
      cases k with
      | false => exact iteF ⟨μ1, ρ, S1, r1, sl.mono e1, Post.pre e1 p⟩
      | true => exact iteT (Post.okI (show Post _ E (.ok true S1) μ1 H1 _ from Post.pre e1 p) r1)
    | _ => exact p.elim
  | ex c fs S1 => rw [ho] at p; exact p
  | bad => rw [ho] at p; exact p
/-- a if c else b -/
theorem e_ite {c a b : Expr} {ic ia ib : IE} {pos : Pos} (hc : PT X c (tT (gX X ca) E F ic)) (ha : PE X a (tE (gX X ca) E F ia)) (hb : PE X b (tE (gX X ca) E F ib)) : PE X (.IfExp c a b pos) (tE (gX X ca) E F (.ite ic ia ib)) := by
  refine PE.imp (pe_ifExp hc ha hb) fun σ H Q q => ?_
  obtain ⟨μ, ρ, S, r, sl, p⟩ := q
  have p : Post _ E ((evE F ic ρ S).bind fun x S1 => (blO x S1).bind fun k _ => if k then evE F ia ρ S1 else evE F ib ρ S1) μ H _ := p
  refine ⟨μ, ρ, S, r, sl, ?_⟩
  cases ho : evE F ic ρ S with
  | ok d S1 =>
    rw [ho] at p
    cases d with
    | bl k =>
      intro μ1 H1 e1 r1
      cases k with
      | false => exact iteF ⟨μ1, ρ, S1, r1, sl.mono e1, Post.pre e1 p⟩
      | true => exact iteT ⟨μ1, ρ, S1, r1, sl.mono e1, Post.pre e1 p⟩
    | _ => exact p.elim
  | ex c fs S1 => rw [ho] at p; exact p
  | bad => rw [ho] at p; exact p
/-- a op b op' c -/
theorem e_chn (hu : X.A.units + 100 < cLine) {op op' : CmpOp} {a b c : Expr} {ia ib ic : IE} {pos : Pos} (ha : PE X a (tE (gX X ca) E F ia)) (hb : PE X b (tE (gX X ca) E F ib)) (hc : PE X c (tE (gX X ca) E F ic))
    (rule : PE X (.Compare a [op, op'] [b, c] pos) (tChain (r2 (gX X ca) E fun a b S => ok? ((cmpD op a b S).map D.bl) S) (r2 (gX X ca) E fun a b S => ok? ((cmpD op' a b S).map D.bl) S) (tE (gX X ca) E F ia) (tE (gX X ca) E F ib) (tE (gX X ca) E F ic))) :
    PE X (.Compare a [op, op'] [b, c] pos) (tE (gX X ca) E F (.chn op op' ia ib ic)) := by
  refine PE.imp rule fun σ H Q q => ?_
  obtain ⟨μ, ρ, S, r, sl, p⟩ := q
  have p : Post _ E ((evE F ia ρ S).bind fun x S1 => (evE F ib ρ S1).bind fun y S2 => (ok? (cmpD op x y S2) S2).bind fun k _ => if k then (evE F ic ρ S2).bind fun z S3 => ok? ((cmpD op' y z S3).map D.bl) S3 else .ok (D.bl false) S2) μ H _ := p
  refine two r sl p fun x y H2 d d' S2 μ2 e2 r2 hx hy p2 => ?_
  cases hcm : cmpD op d d' S2 with
  | none => rw [hcm] at p2; exact p2.elim
  | some k =>
    rw [hcm] at p2
    refine ⟨μ2, S2, d, d', r2, hx, hy, ?_⟩
    show Post _ E (ok? ((cmpD op d d' S2).map D.bl) S2) μ2 H2 _
    rw [hcm]
    intro μ3 H3 e3 r3 v hv
    obtain rfl : v = .bl k := hv
    refine ⟨k, rfl, ?_⟩
    cases k with
    | false => exact iteF (Post.okI (show Post _ E (.ok (D.bl false) S2) μ3 H3 _ from Post.pre e3 p2) r3 _ rfl)
    | true =>
      refine iteT ?_
      have p3 : Post _ E ((evE F ic ρ S2).bind fun z S3 => ok? ((cmpD op' d' z S3).map D.bl) S3) μ3 H3 _ := Post.pre e3 p2
      exact one r3 ((sl.mono e2).mono e3) p3 fun z H4 d4 S4 μ4 e4 r4 hz p4 => ⟨μ4, S4, d', d4, r4, (hy.mono e3).mono e4, hz, p4⟩
/-! ### an own def -/
/-- a def's promise: as the interpreter says -/
def spOf (g : G) (k : List D → Store → Out D) : Sp := fun vs H Q E => ∃ μ S ds, Rel g μ S H ∧ Reps g.K μ H ds vs ∧ Post g E (k ds S) μ H fun d _ μ' H' => ∀ v, Rep g.K μ' H' d v → Q v H'
/-- as FnOk, where no repr runs around -/
structure FnG (P : Program) (w : World) (K : PySem.W.Frag) (mg : PySem.Str → Option Value) (base : Heap) (CX : CXT) (k : Nat) (f : Addr) (fd : FuncData) (ps : List PySem.Str) (sp : Sp) : Prop where
  len : ∀ vs H Q E, sp vs H Q E → vs.length = ps.length
  run : ∀ (A : Around) (outer : List PySem.Env) (s : Shared) (H : Hp) (args : Args) (us : List Value) (vs : List V) (Q : VK) (E : XK), Room k A → A.guards = some [] → Env0 P w K mg base A outer s H → BindsTo s fd args (ps.zip us) → Vals vs us → sp vs H Q E →
    codeAny (model P w) A (.call (.ref f) args) (CR CX outer P w H s Q E) s
/-- what the world of a body says of an own def -/
structure Own (X : Cx) (F : Fns) (ca : Nat → Addr) (k : Nat) (f : Nat) (x : PySem.Str) (ps : List PySem.Str) : Prop where
  ex : ∃ (a : Addr) (fd : FuncData), X.mg x = some (.ref a) ∧ PySem.W.keepIn X.K (.ref a) = true ∧ Binds X.K fd ps [] ∧ FnG X.prog X.w X.K X.mg X.base (L2.CX X.prog X.w) k a fd ps (spOf (gX X ca) (F f))
theorem run_own {a : Addr} {fd : FuncData} {ps : List PySem.Str} {k : Nat} {sp : Sp} {pins : List (Addr × Obj)} {s : Shared} {σ : L2.St} {H : Hp} {Q : VK} {us : List Value} {vs : List V} (G1 : FnG X.prog X.w X.K X.mg X.base (L2.CX X.prog X.w) k a fd ps sp) (hr : Room k X.A) (hg : X.A.guards = some []) (hb : Binds X.K fd ps [])
    (hx : Passes (L2.CX X.prog X.w) X E) (I : Inv X pins σ H s) (r : Vals vs us) (h : sp vs H Q E) : wpAny (model X.prog X.w) X.A (call (.ref a) us) (EP X pins σ Q) X.xe s := by
  have hl : (us ++ []).length = ps.length := by
    rw [List.append_nil, ← r.length]
    exact G1.len _ _ _ _ h
  have hbt := hb s us I.kIn hl
  rw [List.append_nil] at hbt
  refine wpAny_call (codeAny_mono (G1.run X.A X.stack s H ⟨us, []⟩ us vs Q E hr hg I.env0 hbt r h) fun r2 s' hq => ?_)
  rcases r2 with e | (_ | u | _ | _)
  · exact hx pins σ H s e s' I hq
  all_goals first | exact I.after hq | exact False.elim hq
theorem e_call {f : Nat} {x : PySem.Str} {ps : List PySem.Str} {k : Nat} {es : List Expr} {ies : IEs} {p pos : Pos} (O : Own X F ca k f x ps) (hr : Room k X.A) (hg : X.A.guards = some []) (hx : Passes (L2.CX X.prog X.w) X E) (hgl : Gl X x) (hd : (x == ("__debug__" : PySem.Str)) = false)
    (ha : PA X es (tEs (gX X ca) E F ies)) (hs : es.all nst = true) (hn : es = [] → ies = .nil) : PE X (.Call (.Name x p) es [] pos) (tE (gX X ca) E F (.call f ies)) := by
  obtain ⟨a, fd, hm, hk, hb, G1⟩ := O.ex
  refine ⟨fun pins s σ H Q I q => ?_⟩
  obtain ⟨μ, ρ, S, r, sl, p⟩ := q
  have p : Post _ E ((evEs F ies ρ S).bind fun ds S1 => F f ds S1) μ H _ := p
  refine wpAny_Call_Name_kw (ld_glob I hgl hm ?_ hd)
  cases es with
  | nil =>
    obtain rfl := hn rfl
    exact PySem.W.callWith_K0 I.kIn hk (run_own (us := []) (vs := []) G1 hr hg hb hx I .nil ⟨μ, S, [], r, rfl, p⟩)
  | cons e es' =>
    have hq := Bool.and_eq_true_iff.mp hs
    refine PySem.W.callWith_K (h₀ := X.base) I.ok.mod.kin hk (thn (ha.run pos pins s σ H (fun xs H1 => ∃ μ1 S1 ds, Rel (gX X ca) μ1 S1 H1 ∧ Reps X.K μ1 H1 ds xs ∧ Post (gX X ca) E (F f ds S1) μ1 H1 fun d2 _ μ' H' => ∀ v, Rep X.K μ' H' d2 v → Q v H') I
      (many r sl p fun xs H1 ds S1 μ1 e1 r1 hxs p1 => ⟨μ1, S1, ds, r1, hxs, p1⟩)) fun us s1 ⟨vs, H1, I1, rv, q1⟩ => ⟨I1.kIn, ?_⟩) (star_cons hq.1) (star_any hq.2)
    exact run_own G1 hr hg hb hx I1 rv q1
end
end Iv

set_option maxRecDepth 10000
/-! Iv12: what loops walk. -/
namespace Iv
open PySem PySem.Spec PyProof.Rows L2
/-- what a loop hands to its target: a tuple that is only to be unpacked need not be known as one without a dict -/
def RepU (K : PySem.W.Frag) (μ : List Addr) (H : Hp) (t : IT) (d : D) (x : V) : Prop :=
  Rep K μ H d x ∨ ((∃ ts, t = .tup ts) ∧ ∃ ds T vs, d = .tup ds ∧ x = .ref T ∧ SqT K H T vs ∧ Reps K μ H ds vs)
structure ItOk (g : G) (t : IT) (J : It) (items : List D) (src : Src) (μ1 : List Addr) (H1 : Hp) : Prop where
  go : ∀ i d μ' S' H', Ext g.K μ1 μ' H1 H' → Rel g μ' S' H' → src.ok S' = true → items[i]? = some d → J.go i H' ∧ ∀ x H2, J.yld i H' x H2 → Ext g.K μ' μ' H' H2 ∧ Rel g μ' S' H2 ∧ RepU g.K μ' H2 t d x
  stop : ∀ μ' S' H' i, Ext g.K μ1 μ' H1 H' → Rel g μ' S' H' → src.ok S' = true → items.length ≤ i → J.stop i H'
def tI (g : G) (E : XK) (F : Fns) (t : IT) (it : II) : TI := fun σ H R => ∃ μ ρ S, Rel g μ S H ∧ Slots g.K μ H σ ρ ∧ Post g E (evI F it ρ S) μ H fun p _ μ1 H1 => ∀ J, ItOk g t J p.1 p.2 μ1 H1 → R J H1
section
variable {X : Cx} {ca : Nat → Addr} {E : XK} {F : Fns} {t : IT}
theorem it_list {μ1 : List Addr} {H1 : Hp} {S1 : Store} {n : Nat} {a : Addr} {xs : List D} (ha : μ1[n]? = some a) : ItOk (gX X ca) t (Itl X.K a) xs (.lst n xs) μ1 H1 := by
  have key : ∀ μ' S' H', Ext X.K μ1 μ' H1 H' → Rel (gX X ca) μ' S' H' → (Src.lst n xs).ok S' = true → ∃ vs, H' a = some (.lst vs) ∧ Reps X.K μ' H' xs vs := fun μ' S' H' e r ok => by
    have e1 : lstAt S' n = some xs := of_decide_eq_true ok
    unfold lstAt at e1
    split at e1
    · rename_i ys hs
      cases e1
      obtain ⟨vs, h1, h2⟩ := r.at_ n a _ (e.at_ ha) hs
      exact ⟨vs, h1, h2⟩
    · cases e1
  refine ⟨fun i d μ' S' H' e r ok hi => ?_, fun μ' S' H' i e r ok hi => ?_⟩
  · obtain ⟨vs, h1, h2⟩ := key μ' S' H' e r ok
    obtain ⟨v, e1, e2⟩ := h2.get hi
    refine ⟨⟨vs, v, .of h1, e1⟩, fun x H2 y => ?_⟩
    obtain ⟨rfl, y⟩ := y
    have : v = x := Option.some.inj (e1.symm.trans (y vs (.of h1)))
    subst this
    exact ⟨Ext.refl, r, .inl e2⟩
  · obtain ⟨vs, h1, h2⟩ := key μ' S' H' e r ok
    exact ⟨vs, .of h1, by rw [← h2.length]; exact hi⟩
theorem it_rol {μ1 : List Addr} {H1 : Hp} {a : Addr} {xs : List D} {vs : List V} (h : RoL X.K H1 a vs) (hr : Reps X.K μ1 H1 xs vs) : ItOk (gX X ca) t (Itl X.K a) xs .free μ1 H1 := by
  refine ⟨fun i d μ' S' H' e r ok hi => ?_, fun μ' S' H' i e r ok hi => ⟨vs, (e.rols a vs h).sq, by rw [← hr.length]; exact hi⟩⟩
  obtain ⟨v, e1, e2⟩ := (hr.mono e).get hi
  refine ⟨⟨vs, v, (e.rols a vs h).sq, e1⟩, fun x H2 y => ?_⟩
  obtain ⟨rfl, y⟩ := y
  have : v = x := Option.some.inj (e1.symm.trans (y vs (e.rols a vs h).sq))
  subst this
  exact ⟨Ext.refl, r, .inl e2⟩
theorem it_tup {μ1 : List Addr} {H1 : Hp} {a : Addr} {xs : List D} {vs : List V} (h : TupAt H1 a vs) (hr : Reps X.K μ1 H1 xs vs) : ItOk (gX X ca) t (Itt X.K a) xs .free μ1 H1 := by
  refine ⟨fun i d μ' S' H' e r ok hi => ?_, fun μ' S' H' i e r ok hi => ⟨vs, (e.tups a vs h).sq, by rw [← hr.length]; exact hi⟩⟩
  obtain ⟨v, e1, e2⟩ := (hr.mono e).get hi
  refine ⟨⟨vs, v, (e.tups a vs h).sq, e1⟩, fun x H2 y => ?_⟩
  obtain ⟨rfl, y⟩ := y
  have : v = x := Option.some.inj (e1.symm.trans (y vs (e.tups a vs h).sq))
  subst this
  exact ⟨Ext.refl, r, .inl e2⟩
theorem rangeL_at : ∀ (n i : Nat) (lo : Int), (rangeL lo n)[i]? = if i < n then some (.int (lo + i)) else none
  | 0, i, lo => by simp [rangeL]
  | n + 1, 0, lo => by simp [rangeL]
  | n + 1, i + 1, lo => by
    show (rangeL (lo + 1) n)[i]? = _
    rw [rangeL_at n i (lo + 1)]
    by_cases h : i < n
    · rw [if_pos h, if_pos (by omega)]
      congr 2
      push_cast
      omega
    · rw [if_neg h, if_neg (by omega)]
theorem rangeL_len (n : Nat) : ∀ lo, (rangeL lo n).length = n := by
  induction n with
  | zero => intro lo; rfl
  | succ n ih => intro lo; exact congrArg (· + 1) (ih (lo + 1))
theorem it_range {μ1 : List Addr} {H1 : Hp} {lo : Int} {n : Nat} : ItOk (gX X ca) t (Itr lo n) (rangeL lo n) .free μ1 H1 := by
  refine ⟨fun i d μ' S' H' e r ok hi => ?_, fun μ' S' H' i e r ok hi => by rw [rangeL_len] at hi; exact hi⟩
  rw [rangeL_at] at hi
  by_cases h : i < n
  · rw [if_pos h] at hi
    cases hi
    refine ⟨h, fun x H2 y => ?_⟩
    obtain ⟨rfl, rfl⟩ := y
    exact ⟨Ext.refl, r, .inl rfl⟩
  · rw [if_neg h] at hi
    cases hi
theorem range3_at : ∀ (n i : Nat) (lo c : Int), (range3 lo c n)[i]? = if i < n then some (.int (lo + i * c)) else none
  | 0, i, lo, c => by simp [range3]
  | n + 1, 0, lo, c => by simp [range3]
  | n + 1, i + 1, lo, c => by
    show (range3 (lo + c) c n)[i]? = _
    rw [range3_at n i (lo + c) c]
    by_cases h : i < n
    · rw [if_pos h, if_pos (by omega)]
      congr 2
      push_cast
      rw [Int.add_mul]
      omega
    · rw [if_neg h, if_neg (by omega)]
theorem range3_len (n : Nat) (c : Int) : ∀ lo, (range3 lo c n).length = n := by
  induction n with
  | zero => intro lo; rfl
  | succ n ih => intro lo; exact congrArg (· + 1) (ih (lo + c))
theorem it_range3 {μ1 : List Addr} {H1 : Hp} {lo c : Int} {n : Nat} : ItOk (gX X ca) t (Itc lo c n) (range3 lo c n) .free μ1 H1 := by
  refine ⟨fun i d μ' S' H' e r ok hi => ?_, fun μ' S' H' i e r ok hi => by rw [range3_len] at hi; exact hi⟩
  rw [range3_at] at hi
  by_cases h : i < n
  · rw [if_pos h] at hi
    cases hi
    refine ⟨h, fun x H2 y => ?_⟩
    obtain ⟨rfl, rfl⟩ := y
    exact ⟨Ext.refl, r, .inl rfl⟩
  · rw [if_neg h] at hi
    cases hi
theorem it_str {μ1 : List Addr} {H1 : Hp} {z : Str} : ItOk (gX X ca) t (Its z) (z.cps.toList.map fun c => D.str ⟨#[c]⟩) .free μ1 H1 := by
  refine ⟨fun i d μ' S' H' e r ok hi => ?_, fun μ' S' H' i e r ok hi => by rw [List.length_map] at hi; exact hi⟩
  rw [List.getElem?_map] at hi
  obtain ⟨c, ec, rfl⟩ := Option.map_eq_some_iff.mp hi
  have ec' : z.cps[i]? = some c := by simpa using ec
  refine ⟨(Array.getElem?_eq_some_iff.mp ec').1, fun x H2 y => ?_⟩
  obtain ⟨rfl, c', e1, rfl⟩ := y
  rw [ec'] at e1
  cases e1
  exact ⟨Ext.refl, r, .inl rfl⟩
theorem pi_strV {tg : Expr} {pins : List (Addr × Obj)} {σ : L2.St} {H : Hp} {s : Shared} {x : Str} {v : Value} {R : It → Hp → Prop} (I : Inv X pins σ H s) (rx : RelV (.str x) v) (q : R (Its x) H) : wpAny (model X.prog X.w) X.A (pyIter v) (PIE X pins σ tg R) X.xe s := by
  obtain ⟨t, rfl⟩ := rx
  cases ha : x.cps.all (· < 128)
  · exact wpAny_pyIter_wide ha (pi_one (tk := s.toks) I _ (turn_str _ x t "str_iterator" (.inr rfl)) ⟨_, Heap.get?_push_size _ rfl, rfl, rfl⟩ q)
  · exact wpAny_pyIter_ascii ha (pi_one (tk := s.toks) I _ (turn_str _ x t "str_ascii_iterator" (.inl rfl)) ⟨_, Heap.get?_push_size _ rfl, rfl, rfl⟩ q)
/-- over a value: a list, a tuple, a text -/
theorem i_val {tg l : Expr} {il : IE} (hl : PE X l (tE (gX X ca) E F il)) : PI X tg l (tI (gX X ca) E F t (.val il)) := by
  refine ⟨fun pins s σ H R I q => ?_⟩
  obtain ⟨μ, ρ, S, r, sl, p⟩ := q
  have p : Post _ E ((evE F il ρ S).bind fun x S1 => match walkOf S1 x with | some xs => .ok (xs, srcOf x xs) S1 | none => .bad) μ H _ := p
  refine thn (hl.run pins s σ H (fun x H1 => ∃ μ1 S1 d xs, Rel (gX X ca) μ1 S1 H1 ∧ Rep X.K μ1 H1 d x ∧ walkOf S1 d = some xs ∧ ∀ J, ItOk (gX X ca) t J xs (srcOf d xs) μ1 H1 → R J H1) I (one r sl p fun x H1 d S1 μ1 e1 r1 hx p1 => ?_))
    fun v s1 ⟨x, H1, I1, rx, μ1, S1, d, xs, r1, hx, hw, q⟩ => ?_
  · cases hw : walkOf S1 d with
    | none => rw [hw] at p1; exact p1.elim
    | some xs =>
      rw [hw] at p1
      exact ⟨μ1, S1, d, xs, r1, hx, hw, Post.okI (show Post _ E (.ok (xs, srcOf d xs) S1) μ1 H1 _ from p1) r1⟩
  · have lists : ∀ a vs, x = .ref a → SqL X.K H1 a vs → R (Itl X.K a) H1 → wpAny (model X.prog X.w) X.A (pyIter v) (PIE X pins σ tg R) X.xe s1 := fun a vs ex hs hR => by
      subst ex
      cases rx
      obtain ⟨its, rv, pl, hz⟩ := I1.list hs
      refine wpAny_pyIter_list pl.isList ⟨s1.heap.objs.size, [s1.heap.objs.size], _, _, H1, rfl, I1.kept (t' := s1.toks) (fun b o e => Heap.get?_push_of_some _ e), turn_list a _, ⟨_, Heap.get?_push_size _ rfl, rfl, rfl⟩, fun b hb => ?_, hR⟩
      obtain rfl : b = s1.heap.objs.size := by simpa using hb
      exact I1.fpOk (Nat.le_refl _) (I1.hok.fresh (Nat.le_refl _))
    cases d with
    | str z =>
      obtain rfl : x = .str z := hx
      cases hw
      exact pi_strV I1 rx (q _ it_str)
    | tup ys =>
      obtain ⟨a, vs, rfl, h1, h2⟩ := hx
      cases hw
      cases rx
      obtain ⟨its, rv, pl, hz⟩ := I1.tuple h1.sq
      refine wpAny_pyIter_tuple (show s1.heap.IsTuple a its.toArray from pl) ⟨s1.heap.objs.size, [s1.heap.objs.size], _, _, H1, rfl, I1.kept (t' := s1.toks) (fun b o e => Heap.get?_push_of_some _ e), turn_tuple a _, ⟨_, Heap.get?_push_size _ rfl, rfl, rfl⟩, fun b hb => ?_, q _ (it_tup h1 h2)⟩
      obtain rfl : b = s1.heap.objs.size := by simpa using hb
      exact I1.fpOk (Nat.le_refl _) (I1.hok.fresh (Nat.le_refl _))
    | rol ys =>
      obtain ⟨a, vs, rfl, h1, h2⟩ := hx
      cases hw
      exact lists a vs rfl h1.sq (q _ (it_rol h1 h2))
    | loc n =>
      have hw : lstAt S1 n = some xs := hw
      have hw0 := hw
      unfold lstAt at hw
      split at hw
      · rename_i zs hs
        cases hw
        obtain ⟨a, vs, ha, rfl, h1, h2⟩ := r1.lstAt hx hs
        exact lists a vs rfl (.of h1) (q _ (it_list (S1 := S1) ha))
      · cases hw
    | _ => cases hw
end
end Iv

set_option maxRecDepth 10000
/-! Iv13: range, enumerate, zip in a for. -/
namespace Iv
open PySem PySem.Spec PyProof.Rows L2
section
variable {X : Cx} {ca : Nat → Addr} {E : XK} {F : Fns} {t : IT}
theorem i_range {tg : Expr} {es : List Expr} {ies : IEs} {p pos : Pos} (hg : Gl X "range") (hm : X.mg "range" = none) (ha : PA X es (tEs (gX X ca) E F ies)) (hl : 0 < es.length ∧ es.length < 4) (hs : es.all nst = true) (hk : ∀ ρ S ds S1, evEs F ies ρ S = .ok ds S1 → ds.length = es.length) :
    PI X tg (.Call (.Name "range" p) es [] pos) (tI (gX X ca) E F t (.range ies)) := by
  have key : ∀ (σ : L2.St) (H : Hp) (R : It → Hp → Prop), tI (gX X ca) E F t (.range ies) σ H R → ∃ μ ρ S, Rel (gX X ca) μ S H ∧ Slots X.K μ H σ ρ ∧ Post (gX X ca) E (evEs F ies ρ S) μ H fun ds _ μ1 H1 => ds.length = es.length ∧ ∃ xs, rangeOf ds = some xs ∧ ∀ J, ItOk (gX X ca) t J xs .free μ1 H1 → R J H1 := fun σ H R q => by
    obtain ⟨μ, ρ, S, r, sl, p⟩ := q
    have p : Post _ E ((evEs F ies ρ S).bind fun ds S1 => match rangeOf ds with | some xs => .ok (xs, Src.free) S1 | none => .bad) μ H _ := p
    refine ⟨μ, ρ, S, r, sl, ?_⟩
    cases ho : evEs F ies ρ S with
    | ok ds S1 =>
      rw [ho] at p
      have p : Post _ E (match rangeOf ds with | some xs => .ok (xs, Src.free) S1 | none => .bad) μ H _ := p
      intro μ1 H1 e1 r1
      cases hr : rangeOf ds with
      | none => rw [hr] at p; exact p.elim
      | some xs =>
        rw [hr] at p
        exact ⟨hk _ _ _ _ ho, xs, rfl, p μ1 H1 e1 r1⟩
    | ex c fs S1 => rw [ho] at p; exact p
    | bad => rw [ho] at p; exact p
  match es, ha, hl, hs, hk, key with
  | [a], ha, hl, hs, hk, key =>
    have q := Bool.and_eq_true_iff.mp hs
    refine ⟨fun pins s σ H R I q0 => (pi_range1 hg hm ha (star_cons q.1)).run pins s σ H R I ?_⟩
    obtain ⟨μ, ρ, S, r, sl, p⟩ := key _ _ _ q0
    refine ⟨μ, ρ, S, r, sl, p.imp fun ds S1 μ1 H1 e1 r1 ⟨hlen, xs, hr, q⟩ vs hv => ?_⟩
    match ds, hlen, hr, hv with
    | [d], _, hr, hv =>
      obtain ⟨v, rfl, h1⟩ := args1 hv
      cases d with
      | int j =>
        obtain rfl : v = .int j := h1
        have hr : (if small62 j = true then some (rangeL 0 j.toNat) else none) = some xs := hr
        by_cases c : small62 j = true
        · rw [if_pos c] at hr
          cases hr
          have c := of_decide_eq_true (p := -(2 ^ 62) ≤ j ∧ j < 2 ^ 62) c
          exact ⟨j, rfl, c.1, c.2, q _ it_range⟩
        · rw [if_neg c] at hr
          cases hr
      | _ => cases hr
  | [a, b], ha, hl, hs, hk, key =>
    have q := Bool.and_eq_true_iff.mp hs
    have qb := Bool.and_eq_true_iff.mp q.2
    refine ⟨fun pins s σ H R I q0 => (pi_range2 hg hm ha (by rw [star_cons q.1, star_cons qb.1]; rfl) (star_cons qb.1)).run pins s σ H R I ?_⟩
    obtain ⟨μ, ρ, S, r, sl, p⟩ := key _ _ _ q0
    refine ⟨μ, ρ, S, r, sl, p.imp fun ds S1 μ1 H1 e1 r1 ⟨hlen, xs, hr, q⟩ vs hv => ?_⟩
    match ds, hlen, hr, hv with
    | [d, d'], _, hr, hv =>
      obtain ⟨v, v', rfl, h1, h2⟩ := args2 hv
      cases d with
      | int i =>
        cases d' with
        | int j =>
          obtain rfl : v = .int i := h1
          obtain rfl : v' = .int j := h2
          have hr : (if (small62 i && small62 j) = true then some (rangeL i (j - i).toNat) else none) = some xs := hr
          by_cases c : (small62 i && small62 j) = true
          · rw [if_pos c] at hr
            cases hr
            have c := Bool.and_eq_true_iff.mp c
            have c1 := of_decide_eq_true (p := -(2 ^ 62) ≤ i ∧ i < 2 ^ 62) c.1
            have c2 := of_decide_eq_true (p := -(2 ^ 62) ≤ j ∧ j < 2 ^ 62) c.2
            exact ⟨i, j, rfl, ⟨c1.1, c1.2, c2.1, c2.2⟩, q _ it_range⟩
          · rw [if_neg c] at hr
            cases hr
        | _ => cases hr
      | _ => cases d' <;> cases hr
  | [a, b, c0], ha, hl, hs, hk, key =>
    have q := Bool.and_eq_true_iff.mp hs
    refine ⟨fun pins s σ H R I q0 => (pi_range3 hg hm ha (star_cons q.1) (star_any q.2)).run pins s σ H R I ?_⟩
    obtain ⟨μ, ρ, S, r, sl, p⟩ := key _ _ _ q0
    refine ⟨μ, ρ, S, r, sl, p.imp fun ds S1 μ1 H1 e1 r1 ⟨hlen, xs, hr, q⟩ vs hv => ?_⟩
    match ds, hlen, hr, hv with
    | [d, d', d''], _, hr, hv =>
      obtain ⟨v, vr, rfl, h1, hv2⟩ := hv
      obtain ⟨v', v'', rfl, h2, h3⟩ := args2 hv2
      cases d with
      | int i =>
        cases d' with
        | int j =>
          cases d'' with
          | int k =>
            obtain rfl : v = .int i := h1
            obtain rfl : v' = .int j := h2
            obtain rfl : v'' = .int k := h3
            have hr : (if k ≠ 0 ∧ k.natAbs < 1073741824 ∧ Builtin.Range.small i j k = true then some (range3 i k (Builtin.Range.rangeSize i j k).toNat) else none) = some xs := hr
            by_cases c : k ≠ 0 ∧ k.natAbs < 1073741824 ∧ Builtin.Range.small i j k = true
            · rw [if_pos c] at hr
              cases hr
              exact ⟨i, j, k, _, rfl, ⟨c.1, c.2.1, c.2.2, PyProof.Rows.rangeSize_toNat i j k⟩, q _ it_range3⟩
            · rw [if_neg c] at hr
              cases hr
          | _ => cases hr
        | _ => cases hr
      | _ => cases hr
  | [], _, hl, _, _, _ => exact absurd hl.1 (by simp)
  | _ :: _ :: _ :: _ :: _, _, hl, _, _, _ => exact absurd hl.2 (by simp)

/-! ### what stays a walk's list -/
theorem src_at {μ1 μ' : List Addr} {H1 H' : Hp} {S1 S' : Store} {d : D} {x : V} {xs : List D} (r1 : Rel (gX X ca) μ1 S1 H1) (hx : Rep X.K μ1 H1 d x) (hs : seqOf S1 d = some xs) (e : Ext X.K μ1 μ' H1 H') (r : Rel (gX X ca) μ' S' H') (ok : (srcOf d xs).ok S' = true) :
    seqOf S' d = some xs := by
  cases d with
  | loc n => exact of_decide_eq_true (p := lstAt S' n = some xs) ok
  | tup ys => exact hs
  | rol ys => exact hs
  | non => cases hs
  | bl _ => cases hs
  | int _ => cases hs
  | str _ => cases hs
theorem enumL_at : ∀ (xs : List D) (i : Nat) (k : Int), (enumL k xs)[i]? = (xs[i]?).map fun x => .tup [.int (k + i), x]
  | [], i, k => by simp [enumL]
  | x :: r, 0, k => by simp [enumL]
  | x :: r, i + 1, k => by
    show (enumL (k + 1) r)[i]? = _
    rw [enumL_at r i (k + 1)]
    have : k + 1 + (i : Int) = k + ((i + 1 : Nat) : Int) := by omega
    rw [this]
    rfl
theorem enumL_len : ∀ (xs : List D) (k : Int), (enumL k xs).length = xs.length
  | [], _ => rfl
  | _ :: r, k => congrArg (· + 1) (enumL_len r (k + 1))
theorem zipL_at : ∀ (xs ys : List D) (i : Nat), (zipL xs ys)[i]? = match xs[i]?, ys[i]? with | some x, some y => some (.tup [x, y]) | _, _ => none
  | [], ys, i => by simp [zipL]
  | x :: xs, [], i => by cases h : (x :: xs)[i]? <;> simp [zipL]
  | x :: xs, y :: ys, 0 => by simp [zipL]
  | x :: xs, y :: ys, i + 1 => by
    show (zipL xs ys)[i]? = _
    rw [zipL_at xs ys i]
    rfl
theorem zipL_len : ∀ (xs ys : List D), (zipL xs ys).length = min xs.length ys.length
  | [], ys => by simp [zipL]
  | x :: xs, [] => by simp [zipL]
  | x :: xs, y :: ys => by
    show (zipL xs ys).length + 1 = _
    rw [zipL_len xs ys]
    simp only [List.length_cons]
    omega
/-- a new pair, to be unpacked -/
theorem pair_new {μ : List Addr} {H : Hp} {T : Addr} {x y : V} {d d' : D} {ts : ITs} {S : Store} (r : Rel (gX X ca) μ S H) (n : H T = none) (hx : Rep X.K μ H d x) (hy : Rep X.K μ H d' y) :
    Ext X.K μ μ H (upd H T (.tup [x, y])) ∧ Rel (gX X ca) μ S (upd H T (.tup [x, y])) ∧ RepU X.K μ (upd H T (.tup [x, y])) (.tup ts) (.tup [d, d']) (.ref T) := by
  have e : Ext X.K μ μ H (upd H T (.tup [x, y])) := Ext.obj n
  exact ⟨e, r.obj n, .inr ⟨⟨ts, rfl⟩, [d, d'], T, [x, y], rfl, rfl, .inl (.inl upd_same), ⟨x, [y], rfl, hx.mono e, Reps.one (hy.mono e)⟩⟩⟩
end
end Iv

set_option maxRecDepth 10000
/-! Iv14: targets; list comprehensions. -/
namespace Iv
open PySem PySem.Spec PyProof.Rows L2
theorem wipe_slots {K : PySem.W.Frag} {μ : List Addr} {H : Hp} {σ : L2.St} {ρ : Env} (s : Slots K μ H σ ρ) : ∀ vs : List Nat, Slots K μ H (wipe σ vs) (wipeE ρ vs)
  | [] => s
  | v :: vs => by
    have q := wipe_slots s vs
    refine ⟨by simpa [wipe, wipeE] using q.1, fun i d h => ?_⟩
    have h : ((wipeE ρ vs).set v none)[i]? = some (some d) := h
    show ∃ w, ((wipe σ vs).set v none)[i]? = some (some w) ∧ _
    by_cases e : v = i
    · subst e
      by_cases hv : v < (wipeE ρ vs).length
      · rw [List.getElem?_set_self hv] at h; cases h
      · rw [List.getElem?_eq_none (by simpa using hv)] at h; cases h
    · rw [List.getElem?_set_ne e] at h
      rw [List.getElem?_set_ne e]
      exact q.2 i d h
theorem wipe_in {σ : L2.St} : ∀ {vs : List Nat} {i : Nat}, i ∈ vs → i < σ.length → (wipe σ vs)[i]? = some none
  | v :: vs, i, h, hl => by
    show ((wipe σ vs).set v none)[i]? = some none
    by_cases e : v = i
    · subst e
      rw [List.getElem?_set_self (by rw [wipe_length]; exact hl)]
    · rw [List.getElem?_set_ne e]
      rcases List.mem_cons.mp h with h | h
      · exact absurd h.symm e
      · exact wipe_in h hl
theorem wipe_same {σ σ2 : L2.St} {vs : List Nat} (hl : σ2.length = σ.length) (h : ∀ i, i ∉ vs → σ2[i]? = (wipe σ vs)[i]?) : wipe σ2 vs = wipe σ vs := by
  refine List.ext_getElem? fun i => ?_
  by_cases hi : i ∈ vs
  · by_cases hlt : i < σ.length
    · rw [wipe_in hi hlt, wipe_in hi (by rw [hl]; exact hlt)]
    · rw [List.getElem?_eq_none (by rw [wipe_length, hl]; omega), List.getElem?_eq_none (by rw [wipe_length]; omega)]
  · rw [wipe_out hi, h i hi]
def gB (g : G) (t : IT) : TG := fun v σ H Q => ∃ μ ρ S d ρ', Rel g μ S H ∧ Slots g.K μ H σ ρ ∧ RepU g.K μ H t d v ∧ bindT t d ρ = some ρ' ∧ ∀ σ', Slots g.K μ H σ' ρ' → σ'.length = σ.length → (∀ i, i ∉ slotsT t → σ'[i]? = σ[i]?) → Q σ' H
def gBs (g : G) (ts : ITs) : TGs := fun vs σ H Q => ∃ μ ρ S ds ρ', Rel g μ S H ∧ Slots g.K μ H σ ρ ∧ Reps g.K μ H ds vs ∧ bindTs ts ds ρ = some ρ' ∧ ∀ σ', Slots g.K μ H σ' ρ' → σ'.length = σ.length → (∀ i, i ∉ slotsTs ts → σ'[i]? = σ[i]?) → Q σ' H
section
variable {X : Cx} {ca : Nat → Addr} {E : XK} {F : Fns} {g : G}
theorem PG.imp {e : Expr} {t t' : TG} (h : PG X e t) (i : ∀ v σ H Q, t' v σ H Q → t v σ H Q) : PG X e t' := ⟨fun pins s σ H v u Q I r q => h.run pins s σ H v u Q I r (i v σ H Q q)⟩
theorem PGs.imp {e : List Expr} {t t' : TGs} (h : PGs X e t) (i : ∀ v σ H Q, t' v σ H Q → t v σ H Q) : PGs X e t' := ⟨fun pins s σ H v u Q I r q => h.run pins s σ H v u Q I r (i v σ H Q q)⟩
theorem b_name {i : Nat} {x : Str} {pos : Pos} (h : PG X (.Name x pos) (gName i)) : PG X (.Name x pos) (gB g (.nm i)) := by
  refine PG.imp h fun v σ H Q q => ?_
  obtain ⟨μ, ρ, S, d, ρ', r, sl, hv, hb, q⟩ := q
  have hb : (if i < ρ.length then some (ρ.set i (some d)) else none) = some ρ' := hb
  by_cases c : i < ρ.length
  · rw [if_pos c] at hb
    cases hb
    rcases hv with hv | ⟨⟨ts, e⟩, _⟩
    · refine q _ (sl.set i hv) (by simp) fun j hj => ?_
      rw [List.getElem?_set_ne (fun e => hj (by rw [← e]; exact List.mem_cons_self))]
    · cases e
  · rw [if_neg c] at hb
    cases hb
theorem b_nil : PGs X [] (gBs g .nil) := by
  refine PGs.imp pgs_nil fun vs σ H Q q => ?_
  obtain ⟨μ, ρ, S, ds, ρ', r, sl, hv, hb, q⟩ := q
  cases ds with
  | nil =>
    obtain rfl : vs = [] := hv
    cases hb
    exact ⟨rfl, q σ sl rfl fun _ _ => rfl⟩
  | cons d ds => cases hb
theorem b_cons {e : Expr} {es : List Expr} {t : IT} {ts : ITs} (h1 : PG X e (gB g t)) (h2 : PGs X es (gBs g ts)) (h : (assignEach (e :: es) X.env).map (·.2) = assign e X.env :: (assignEach es X.env).map (·.2)) : PGs X (e :: es) (gBs g (.cons t ts)) := by
  refine PGs.imp (pgs_cons h1 h2 h) fun vs σ H Q q => ?_
  obtain ⟨μ, ρ, S, ds, ρ', r, sl, hv, hb, q⟩ := q
  cases ds with
  | nil => cases hb
  | cons d ds =>
    obtain ⟨v, vr, rfl, hv1, hv2⟩ := hv
    have hb : (bindT t d ρ).bind (fun ρ' => bindTs ts ds ρ') = some ρ' := hb
    obtain ⟨ρ1, hb1, hb2⟩ := Option.bind_eq_some_iff.mp hb
    refine ⟨v, vr, rfl, μ, ρ, S, d, ρ1, r, sl, .inl hv1, hb1, fun σ1 s1 l1 k1 => ?_⟩
    refine ⟨μ, ρ1, S, ds, ρ', r, s1, hv2, hb2, fun σ2 s2 l2 k2 => q σ2 s2 (l2.trans l1) fun i hi => ?_⟩
    have hi : i ∉ slotsT t ++ slotsTs ts := hi
    rw [List.mem_append, not_or] at hi
    rw [k2 i hi.2, k1 i hi.1]
theorem bindTs_len : ∀ {ts : ITs} {ds : List D} {ρ ρ' : Env}, bindTs ts ds ρ = some ρ' → ds.length = (slotsTs.len ts)
  | .nil, [], _, _, _ => rfl
  | .cons t ts, d :: ds, ρ, ρ', h => by
    obtain ⟨ρ1, _, h2⟩ := Option.bind_eq_some_iff.mp (show (bindT t d ρ).bind (fun ρ' => bindTs ts ds ρ') = some ρ' from h)
    exact congrArg (· + 1) (bindTs_len h2)
  | .nil, _ :: _, _, _, h => by cases h
  | .cons _ _, [], _, _, h => by cases h
theorem b_tup (hc : X.calm = true) {es : List Expr} {k : Nat} {ts : ITs} {pos : Pos} (h : PGs X es (gBs g ts)) (hn : (assignEach es X.env).length = slotsTs.len ts) (hst : (assignEach es X.env).findIdx? (·.1) = none) (hK : g.K = X.K) : PG X (.Tuple es k pos) (gB g (.tup ts)) := by
  refine PG.imp (pg_tup hc h hn hst) fun v σ H Q q => ?_
  obtain ⟨μ, ρ, S, d, ρ', r, sl, hv, hb, q⟩ := q
  cases d with
  | tup ds =>
    have hb : bindTs ts ds ρ = some ρ' := hb
    have key : ∃ a vs, v = .ref a ∧ SqT X.K H a vs ∧ Reps g.K μ H ds vs := by
      rw [← hK]
      rcases hv with ⟨a, vs, rfl, h1, h2⟩ | ⟨_, ds', a, vs, e, rfl, h1, h2⟩
      · exact ⟨a, vs, rfl, h1.sq, h2⟩
      · cases e
        exact ⟨a, vs, rfl, h1, h2⟩
    obtain ⟨a, vs, rfl, h1, h2⟩ := key
    exact ⟨a, vs, rfl, h1, by rw [← h2.length]; exact bindTs_len hb, μ, ρ, S, ds, ρ', r, sl, h2, hb, q⟩
  | _ => cases hb

/-! ### a comprehension's tests -/
def tC (g : G) (E : XK) (F : Fns) (c : IO) : TT := fun σ H Q => ∃ μ ρ S, Rel g μ S H ∧ Slots g.K μ H σ ρ ∧ Post g E (evC F c ρ S) μ H fun k _ _ H' => Q k H'
theorem PTs.imp {e : List Expr} {t t' : TT} (h : PTs X e t) (i : ∀ σ H Q, t' σ H Q → t σ H Q) : PTs X e t' := ⟨fun pins s σ H Q I q => h.run pins s σ H Q I (i σ H Q q)⟩
theorem c_nil : PTs X [] (tC (gX X ca) E F .none) := by
  refine PTs.imp pts_nil fun σ H Q q => ?_
  obtain ⟨μ, ρ, S, r, sl, p⟩ := q
  exact Post.okI (show Post _ E (.ok true S) μ H _ from p) r
theorem c_one {c : Expr} {ic : IE} (h : PT X c (tT (gX X ca) E F ic)) : PTs X [c] (tC (gX X ca) E F (.some ic)) := PTs.imp (pts_one h) fun σ H Q q => q
/-! ### the turns -/
theorem Post.anyE {α : Type} {E : XK} {o : Out α} {a : α} {S' : Store} {μ : List Addr} {H : Hp} {R : α → Store → List Addr → Hp → Prop} (e : o = .ok a S') (p : ∀ μ' H', Ext g.K μ μ' H H' → Rel g μ' S' H' → R a S' μ' H') : Post g E o μ H R := by
  subst e
  exact p
def turnC (F : Fns) (e : IE) (t : IT) (c : IO) (ρ : Env) (x : D) (S2 : Store) : Out (Option D) := match bindT t x (wipeE ρ (slotsT t)) with
      | some ρ' => (evC F c ρ' S2).bind fun k S3 => if k then (evE F e ρ' S3).bind fun d S4 => .ok (some d) S4 else .ok none S3
      | none => .bad
theorem lc_read {ie : IE} {t : IT} {it : II} {c : IO} {σ : L2.St} {H : Hp} {Q : VK} (h : tE (gX X ca) E F (.lc ie t it c) σ H Q) :
    tLc (tI (gX X ca) E F t it) (gB (gX X ca) t) (tC (gX X ca) E0 F c) (tE (gX X ca) E0 F ie) (slotsT t) σ H Q := by
  obtain ⟨μ, ρ, S, r, sl, p⟩ := h
  have p : Post _ E ((evI F it ρ S).bind fun p S1 => (loopC p.2 (turnC F ie t c ρ) S1.length p.1 (S1 ++ [.lst []])).bind fun _ S5 => .ok (D.loc S1.length) S5) μ H _ := p
  refine ⟨μ, ρ, S, r, sl, p.bind.imp ?_⟩
  intro ps S1 μ1 H1 e1 r1 p1 J ok Dn hD
  obtain ⟨items, src⟩ := ps
  have p1 : Post _ E ((loopC src (turnC F ie t c ρ) S1.length items (S1 ++ [.lst []])).bind fun _ S5 => .ok (D.loc S1.length) S5) μ1 H1 _ := p1
  have e0 : Ext X.K μ1 (μ1 ++ [Dn]) H1 (upd H1 Dn (.lst [])) := Ext.new hD
  have r0 : Rel (gX X ca) (μ1 ++ [Dn]) (S1 ++ [.lst []]) (upd H1 Dn (.lst [])) := r1.new hD ⟨[], upd_same, rfl⟩
  have hn0 : (μ1 ++ [Dn])[S1.length]? = some Dn := by rw [← r1.len]; simp
  refine ⟨fun i m H => m = items.length - i ∧ ∃ μ' S', Ext X.K (μ1 ++ [Dn]) μ' (upd H1 Dn (.lst [])) H ∧ Rel (gX X ca) μ' S' H ∧
    Post (gX X ca) E ((loopC src (turnC F ie t c ρ) S1.length (items.drop i) S').bind fun _ S5 => .ok (D.loc S1.length) S5) μ' H fun d _ μ' H' => ∀ v, Rep X.K μ' H' d v → Q v H',
    ⟨items.length, by simp, μ1 ++ [Dn], S1 ++ [.lst []], Ext.refl, r0, by rw [List.drop_zero]; exact Post.pre e0 p1⟩, ?_⟩
  rintro i m H2 ⟨rfl, μ2, S2, e2, r2, p2⟩
  have hx : Ext X.K μ1 μ2 H1 H2 := e0.trans e2
  cases hd : items.drop i with
  | nil =>
    rw [hd] at p2
    have hi : items.length ≤ i := List.drop_eq_nil_iff.mp hd
    have p2 : Post _ E ((if src.ok S2 = true then Out.ok () S2 else .bad).bind fun _ S5 => .ok (D.loc S1.length) S5) μ2 H2 _ := p2
    by_cases k : src.ok S2 = true
    · rw [if_pos k] at p2
      refine .inl ⟨?_, Post.okI (show Post _ E (.ok (D.loc S1.length) S2) μ2 H2 _ from p2) r2 _ ⟨Dn, e2.at_ hn0, rfl⟩⟩
      exact ok.stop μ2 S2 H2 i hx r2 k hi
    · rw [if_neg k] at p2
      exact p2.elim
  | cons x xs =>
    rw [hd] at p2
    have hi : i < items.length := by
      have : (items.drop i).length ≠ 0 := by rw [hd]; simp
      rw [List.length_drop] at this
      omega
    have hxi : items[i]? = some x := by
      have : (items.drop i)[0]? = some x := by rw [hd]; rfl
      simpa using this
    have hdx : items.drop (i + 1) = xs := by
      rw [← List.drop_drop, hd] <;> rfl
    have p2 : Post _ E ((if src.ok S2 = true then
      match turnC F ie t c ρ x S2 with
      | .ok (some d) S' => (gc S2 d S').bind fun d' S'' => match S''[S1.length]? with
        | some (.lst acc) => if acc.length < sizeLine then loopC src (turnC F ie t c ρ) S1.length xs (S''.set S1.length (.lst (acc ++ [d']))) else .bad
        | _ => .bad
      | .ok none S' => (gc S2 .non S').bind fun _ S'' => loopC src (turnC F ie t c ρ) S1.length xs S''
      | _ => .bad
    else .bad).bind fun _ S5 => .ok (D.loc S1.length) S5) μ2 H2 _ := p2
    by_cases k : src.ok S2 = true
    · rw [if_pos k] at p2
      obtain ⟨hgo, hyl⟩ := ok.go i x μ2 S2 H2 hx r2 k hxi
      refine .inr ⟨hgo, fun H' => ∃ μ' S', Ext X.K (μ1 ++ [Dn]) μ' (upd H1 Dn (.lst [])) H' ∧ Rel (gX X ca) μ' S' H' ∧
        Post (gX X ca) E ((loopC src (turnC F ie t c ρ) S1.length xs S').bind fun _ S5 => .ok (D.loc S1.length) S5) μ' H' fun d _ μ' H' => ∀ v, Rep X.K μ' H' d v → Q v H',
        fun H' q => ⟨items.length - (i + 1), by omega, rfl, by rw [hdx]; exact q⟩, fun v H3 y => ?_⟩
      obtain ⟨e3, r3, hv⟩ := hyl v H3 y
      cases hb : bindT t x (wipeE ρ (slotsT t)) with
      | none =>
        have ht : turnC F ie t c ρ x S2 = .bad := by unfold turnC; rw [hb]
        rw [ht] at p2
        exact p2.elim
      | some ρ' =>
        refine ⟨μ2, wipeE ρ (slotsT t), S2, x, ρ', r3, (wipe_slots ((((sl.mono e1).mono hx)).mono e3) _), hv, hb, fun σ2 s2 l2 k2 => ⟨wipe_same (by rw [l2, wipe_length]) k2, ?_⟩⟩
        have ht : turnC F ie t c ρ x S2 = (evC F c ρ' S2).bind fun k S3 => if k then (evE F ie ρ' S3).bind fun d S4 => .ok (some d) S4 else .ok none S3 := by unfold turnC; rw [hb]
        rw [ht] at p2
        cases hcv : evC F c ρ' S2 with
        | ok kk S3 =>
          rw [hcv] at p2
          refine ⟨μ2, ρ', S2, r3, s2, Post.anyE hcv fun μ4 H4 e4 r4 => ?_⟩
          have p2 : Post _ E (Out.bind (match (if kk = true then (evE F ie ρ' S3).bind fun d S4 => .ok (some d) S4 else .ok none S3) with
            | .ok (some d) S' => (gc S2 d S').bind fun d' S'' => match S''[S1.length]? with
              | some (.lst acc) => if acc.length < sizeLine then loopC src (turnC F ie t c ρ) S1.length xs (S''.set S1.length (.lst (acc ++ [d']))) else .bad
              | _ => .bad
            | .ok none S' => (gc S2 .non S').bind fun _ S'' => loopC src (turnC F ie t c ρ) S1.length xs S''
            | _ => .bad) fun _ S5 => .ok (D.loc S1.length) S5) μ2 H2 _ := p2
          cases kk with
          | false =>
            refine iteF ?_
            rw [if_neg Bool.false_ne_true] at p2
            obtain ⟨d2, S5, μ5, eg, q5⟩ := gc_ok (g := gX X ca) (d := .non) (v := .non) (Q := fun d2 S2' μ2' => Ext X.K μ2 μ2' H3 H4 ∧ Rel (gX X ca) μ2' S2' H4) r3 r4 e4 rfl fun d2 S2' μ2' _ e5 r5 _ => ⟨e5, r5⟩
            have p2 : Post _ E (((gc S2 .non S3).bind fun _ S'' => loopC src (turnC F ie t c ρ) S1.length xs S'').bind fun _ S5 => .ok (D.loc S1.length) S5) μ2 H2 _ := p2
            rw [eg] at p2
            exact ⟨μ5, S5, e2.trans (e3.trans q5.1), q5.2, Post.pre (e3.trans q5.1) p2⟩
          | true =>
            refine iteT ?_
            rw [if_pos rfl] at p2
            cases hev : evE F ie ρ' S3 with
            | ok d S4 =>
              rw [hev] at p2
              refine ⟨μ4, ρ', S3, r4, s2.mono e4, Post.anyE hev fun μ5 H5 e5 r5 w hw => ?_⟩
              obtain ⟨d2, S6, μ6, eg, e6, r6, hw6⟩ := gc_ok (g := gX X ca) (Q := fun d2 S2' μ2' => Ext X.K μ2 μ2' H3 H5 ∧ Rel (gX X ca) μ2' S2' H5 ∧ Rep X.K μ2' H5 d2 w) r3 r5 (e4.trans e5) hw fun d2 S2' μ2' _ e5 r5 hw => ⟨e5, r5, hw⟩
              have p2 : Post _ E (((gc S2 d S4).bind fun d' S'' => match S''[S1.length]? with
                | some (.lst acc) => if acc.length < sizeLine then loopC src (turnC F ie t c ρ) S1.length xs (S''.set S1.length (.lst (acc ++ [d']))) else .bad
                | _ => .bad).bind fun _ S5 => .ok (D.loc S1.length) S5) μ2 H2 _ := p2
              rw [eg] at p2
              have p2 : Post _ E ((match S6[S1.length]? with
                | some (.lst acc) => if acc.length < sizeLine then loopC src (turnC F ie t c ρ) S1.length xs (S6.set S1.length (.lst (acc ++ [d2]))) else .bad
                | _ => .bad).bind fun _ S5 => .ok (D.loc S1.length) S5) μ2 H2 _ := p2
              have hn6 : μ6[S1.length]? = some Dn := e6.at_ (e2.at_ hn0)
              split at p2
              · rename_i acc hacc
                obtain ⟨vs, h1, h2⟩ := r6.at_ _ Dn _ hn6 hacc
                by_cases cz : acc.length < sizeLine
                · rw [if_pos cz] at p2
                  have n1 : ∀ q u, H5 Dn ≠ some (.frz q u) := fun q u e => by rw [h1] at e; cases e
                  have e7 : Ext X.K μ6 μ6 H5 (upd H5 Dn (.lst (vs ++ [w]))) := Ext.put (List.mem_of_getElem? hn6) n1
                  have r7 := r6.put (c := .lst (acc ++ [d2])) (o := .lst (vs ++ [w])) hn6 n1 ⟨vs ++ [w], upd_same, Reps.mono e7 (h2.app (Reps.one hw6))⟩
                  exact ⟨vs, h1, by rw [← h2.length]; exact cz, μ6, _, e2.trans ((e3.trans e6).trans e7), r7, Post.pre ((e3.trans e6).trans e7) p2⟩
                · rw [if_neg cz] at p2
                  exact p2.elim
              · exact p2.elim
            | ex cc fs S4 => rw [hev] at p2; exact p2.elim
            | bad => rw [hev] at p2; exact p2.elim
        | ex cc fs S3 => rw [hcv] at p2; exact p2.elim
        | bad => rw [hcv] at p2; exact p2.elim
    · rw [if_neg k] at p2
      exact p2.elim
section
variable {elt tg iter : Expr} {ifs : List Expr} {scope : Scope} {own : List (Str × Nat)} {pos : Pos} {ie : IE} {t : IT} {it : II} {c : IO}
theorem e_lc (hc : X.calm = true) (hN : X.N.Nodup) (hi : PI X tg iter (tI (gX X ca) E F t it)) (ok : BlkOk X.N X.env.scope scope own) (ho : own.map (·.2) = slotsT t)
    (hg : ∀ (s : Shared) (H : Hp) (C : Addr) (cl : List (Str × Addr)) (fp : List Addr), PG (X.blk s H scope (compEnvC scope cl C X.env) fp) tg (gB (gX X ca) t))
    (ht : ∀ (s : Shared) (H : Hp) (C : Addr) (cl : List (Str × Addr)) (fp : List Addr), PTs (X.blk s H scope (compEnvC scope cl C X.env) fp) ifs (tC (gX X ca) E0 F c))
    (he : ∀ (s : Shared) (H : Hp) (C : Addr) (cl : List (Str × Addr)) (fp : List Addr), PE (X.blk s H scope (compEnvC scope cl C X.env) fp) elt (tE (gX X ca) E0 F ie)) (hs : ∀ x, foldedSetIterable iter X.env x = pure x) :
    PE X (.ListComp elt [⟨tg, iter, ifs, 0⟩] scope pos) (tE (gX X ca) E F (.lc ie t it c)) := by
  refine PE.imp (pe_lc hc hN hi ok hg ht he hs) fun σ H Q q => ?_
  rw [ho]
  exact lc_read q
end
end
end Iv

set_option maxRecDepth 10000
/-! Iv15: stores, statements. -/
namespace Iv
open PySem PySem.Spec PyProof.Rows L2
/-- what a statement is to reach -/
def PostS (g : G) (E : XK) (N : Ends) (o : OutS) (μ : List Addr) (H : Hp) : Prop := match o with
  | .nx ρ' S' => ∀ μ' H' σ', Ext g.K μ μ' H H' → Rel g μ' S' H' → Slots g.K μ' H' σ' ρ' → N.nx σ' H'
  | .rt d S' => ∀ μ' H' v, Ext g.K μ μ' H H' → Rel g μ' S' H' → Rep g.K μ' H' d v → N.rt v H'
  | .bk ρ' S' => ∀ μ' H' σ', Ext g.K μ μ' H H' → Rel g μ' S' H' → Slots g.K μ' H' σ' ρ' → N.bk σ' H'
  | .ct ρ' S' => ∀ μ' H' σ', Ext g.K μ μ' H H' → Rel g μ' S' H' → Slots g.K μ' H' σ' ρ' → N.ct σ' H'
  | .ex c fs S' => ∀ μ' H' cls d, Ext g.K μ μ' H H' → Rel g μ' S' H' → XRep g μ' H' c fs cls d → E cls d H'
  | .bad => False
section
variable {g : G} {E : XK} {α : Type} {μ μ1 : List Addr} {H H1 : Hp} {S : Store} {N : Ends}
theorem PostS.pre {o : OutS} (e : Ext g.K μ μ1 H H1) (p : PostS g E N o μ H) : PostS g E N o μ1 H1 := by
  cases o with
  | nx ρ S => exact fun μ' H' σ' e' r s => p μ' H' σ' (e.trans e') r s
  | rt d S => exact fun μ' H' σ' e' r s => p μ' H' σ' (e.trans e') r s
  | bk ρ S => exact fun μ' H' σ' e' r s => p μ' H' σ' (e.trans e') r s
  | ct ρ S => exact fun μ' H' σ' e' r s => p μ' H' σ' (e.trans e') r s
  | ex c fs S => exact fun μ' H' cls d e' r s => p μ' H' cls d (e.trans e') r s
  | bad => exact p
theorem PostS.bindS {o : Out α} {f : α → Store → OutS} (p : PostS g E N (o.bindS f) μ H) : Post g E o μ H fun a S' μ' H' => PostS g E N (f a S') μ' H' := by
  cases o with
  | ok a S' => exact fun μ' H' e' r => PostS.pre e' p
  | ex c fs S' => exact p
  | bad => exact p
/-- a reading with a list of statements behind -/
def Next (g : G) (E : XK) (N : Ends) (f : Env → Store → OutS) : L2.St → Hp → Prop := fun σ H => ∃ μ ρ S, Rel g μ S H ∧ Slots g.K μ H σ ρ ∧ PostS g E N (f ρ S) μ H
theorem PostS.bind {o : OutS} {f : Env → Store → OutS} (p : PostS g E N (o.bind f) μ H) : PostS g E { N with nx := Next g E N f } o μ H := by
  cases o with
  | nx ρ S => exact fun μ' H' σ' e' r s => ⟨μ', ρ, S, r, s, PostS.pre e' p⟩
  | rt d S => exact p
  | bk ρ S => exact p
  | ct ρ S => exact p
  | ex c fs S => exact p
  | bad => exact p
theorem PostS.okN {ρ : Env} {σ : L2.St} (p : PostS g E N (.nx ρ S) μ H) (r : Rel g μ S H) (s : Slots g.K μ H σ ρ) : N.nx σ H := p μ H σ Ext.refl r s
end
def tS (g : G) (E : XK) (F : Fns) (s : IS) : TS := fun N σ H => ∃ μ ρ S, Rel g μ S H ∧ Slots g.K μ H σ ρ ∧ PostS g E N (evS F s ρ S) μ H
def tSs (g : G) (E : XK) (F : Fns) (s : ISs) : TS := fun N σ H => ∃ μ ρ S, Rel g μ S H ∧ Slots g.K μ H σ ρ ∧ PostS g E N (evSs F s ρ S) μ H
/-- a store -/
def gA (g : G) (E : XK) (F : Fns) (t : IT) : TG := fun v σ H Q => ∃ μ ρ S d, Rel g μ S H ∧ Slots g.K μ H σ ρ ∧ RepU g.K μ H t d v ∧ Post g E (asgT F t d ρ S) μ H fun ρ' _ μ' H' => ∀ σ', Slots g.K μ' H' σ' ρ' → Q σ' H'
def gAs (g : G) (E : XK) (F : Fns) (ts : ITs) : TGs := fun vs σ H Q => ∃ μ ρ S ds, Rel g μ S H ∧ Slots g.K μ H σ ρ ∧ Reps g.K μ H ds vs ∧ Post g E (asgTs F ts ds ρ S) μ H fun ρ' _ μ' H' => ∀ σ', Slots g.K μ' H' σ' ρ' → Q σ' H'
section
variable {X : Cx} {ca : Nat → Addr} {E : XK} {F : Fns}
/-! ### o[i] = v -/
theorem kv_keys : ∀ {kvs : List (L2.Key × V)} {vs : List (L2.Key × Value)}, KV kvs vs → kvs.map (·.1) = vs.map (·.1)
  | _, _, .nil => rfl
  | _, _, .cons h t => by
    rw [List.map_cons, List.map_cons, kv_keys t]
    exact congrArg (· :: _) h.1
theorem dk_nodup {pins : List (Addr × Obj)} {s : Shared} {σ : L2.St} {H : Hp} {a : Addr} {kvs : List (L2.Key × V)} (I : Inv X pins σ H s) (h : H a = some (.dK kvs)) : (kvs.map (·.1)).Nodup := by
  obtain ⟨_, _, vs, kv, o, es, ep, _, _, _, _, _, nd⟩ := (show ObjOk X.prog X.w H s.heap a (.dK kvs) from I.hok a _ h)
  rw [kv_keys kv]
  exact nd
def rSet (g : G) (E : XK) : TSet := fun o i v H Q => ∃ μ S d d' d'', Rel g μ S H ∧ Rep g.K μ H d o ∧ Rep g.K μ H d' i ∧ Rep g.K μ H d'' v ∧ Post g E (setD d d' d'' S) μ H fun _ _ _ H' => Q H'
theorem set_all (hu : X.A.units + 1 < cLine) : PSet X (rSet (gX X ca) E) := by
  intro pins s σ H o i v ov iv u Q I ro ri rv h
  obtain ⟨μ, S, d, d', d'', r, hd, hd', hd'', p⟩ := h
  cases d with
  | loc n =>
    have p : Post _ E (match S[n]?, d' with
      | some (.lst xs), .int k => match L2.ixN xs.length k with
        | some j => Out.ok () (S.set n (.lst (xs.set j d'')))
        | none => .bad
      | some (.dct false kvs), k => match D.key? k with
        | some q => if kvs.length < sizeLine then .ok () (S.set n (.dct false (putA q d'' kvs))) else .bad
        | none => .bad
      | _, _ => .bad) μ H _ := p
    obtain ⟨a, ha, rfl⟩ := hd
    split at p
    · rename_i xs k hs _
      obtain rfl : i = .int k := hd'
      obtain ⟨vs, h1, h2⟩ := r.at_ n a _ ha hs
      cases hj : L2.ixN xs.length k with
      | none => rw [hj] at p; exact p.elim
      | some j =>
        rw [hj] at p
        have q := (Post.putL (d := .non) (Q := fun _ _ H' => Q H') (E := E) (S := S) p r ha h1 (h2.set j hd'')).1
        exact set_list pins s σ H _ _ v ov iv u Q I ro ri rv ⟨a, vs, k, j, rfl, rfl, h1, by rw [← h2.length]; exact hj, q⟩
    · rename_i d' _ _ kvs hs _
      obtain ⟨kvs', h1, h2, h3⟩ := r.at_ n a _ ha hs
      have h1 : H a = some (.dK kvs') := h1
      cases hk : D.key? d' with
      | none => rw [hk] at p; exact p.elim
      | some q =>
        rw [hk] at p
        have p : Post _ E (if kvs.length < sizeLine then Out.ok () (S.set n (.dct false (putA q d'' kvs))) else .bad) μ H _ := p
        by_cases c : kvs.length < sizeLine
        · rw [if_pos c] at p
          obtain rfl : i = kV q := key_rep hk hd'
          have n1 : ∀ q u, H a ≠ some (.frz q u) := fun q u e => by rw [h1] at e; cases e
          have e : Ext X.K μ μ H (upd H a (.dK (putK kvs' q v))) := Ext.put (List.mem_of_getElem? ha) n1
          have hl : kvs.length = kvs'.length := by have := congrArg List.length h2; simpa using this
          have nd : (kvs'.map (·.1)).Nodup := dk_nodup I h1
          obtain ⟨z1, z2⟩ := put_rep (k := q) hd'' h2 h3 nd
          have r2 := r.put (c := .dct false (putA q d'' kvs)) (o := .dK (putK kvs' q v)) ha n1 ⟨_, upd_same, z1, Reps.mono e z2⟩
          exact set_dict hu pins s σ H _ _ v ov iv u Q I ro ri rv ⟨a, _, rfl, DPut.k h1 (by rw [← hl]; exact c), p μ _ e r2⟩
        · rw [if_neg c] at p
          exact p.elim
    · exact p.elim
  | _ => exact p.elim
end
end Iv

set_option maxRecDepth 10000
/-! Iv16: stores, statements (2). -/
namespace Iv
open PySem PySem.Spec PyProof.Rows L2
section
variable {X : Cx} {ca : Nat → Addr} {E : XK} {F : Fns}
/-! ### stores -/
theorem s_name {i : Nat} {x : Str} {pos : Pos} (h : PG X (.Name x pos) (gName i)) : PG X (.Name x pos) (gA (gX X ca) E F (.nm i)) := by
  refine PG.imp h fun v σ H Q q => ?_
  obtain ⟨μ, ρ, S, d, r, sl, hv, p⟩ := q
  have p : Post _ E (if i < ρ.length then Out.ok (ρ.set i (some d)) S else .bad) μ H _ := p
  by_cases c : i < ρ.length
  · rw [if_pos c] at p
    rcases hv with hv | ⟨⟨ts, e⟩, _⟩
    · exact p.okI r _ (sl.set i hv)
    · cases e
  · rw [if_neg c] at p
    exact p.elim
theorem s_sub (hu : X.A.units + 1 < cLine) {o i : Expr} {io ii : IE} {pos : Pos} (ho : PE X o (tE (gX X ca) E F io)) (hi : PE X i (tE (gX X ca) E F ii))
    (ha : ∀ v, assign (.Subscript o i pos) X.env v = (do
      let ov ← holding [v] (eval o X.env)
      let iv ← holding [v, ov] (eval i X.env)
      standAt pos
      holding [v, ov, iv] (setItem ov iv v)
      release [v, ov, iv] [])) : PG X (.Subscript o i pos) (gA (gX X ca) E F (.sub io ii)) := by
  refine PG.imp (pg_sub ho hi (set_all (ca := ca) (E := E) hu) ha) fun v σ H Q q => ?_
  obtain ⟨μ, ρ, S, d, r, sl, hv, p⟩ := q
  have p : Post _ E ((evE F io ρ S).bind fun x S1 => (evE F ii ρ S1).bind fun y S2 => (setD x y d S2).bind fun _ S3 => .ok ρ S3) μ H _ := p
  rcases hv with hv | ⟨⟨ts, e⟩, _⟩
  · refine one r sl p fun x H1 d1 S1 μ1 e1 r1 hx p1 => ?_
    refine one r1 (sl.mono e1) p1 fun y H2 d2 S2 μ2 e2 r2 hy p2 => ?_
    refine ⟨μ2, S2, d1, d2, d, r2, hx.mono e2, hy, (hv.mono e1).mono e2, p2.bind.imp fun _ S3 μ3 H3 e3 r3 q => ?_⟩
    exact Post.okI q r3 σ (((sl.mono e1).mono e2).mono e3)
  · cases e
theorem s_nil : PGs X [] (gAs (gX X ca) E F .nil) := by
  refine PGs.imp pgs_nil fun vs σ H Q q => ?_
  obtain ⟨μ, ρ, S, ds, r, sl, hv, p⟩ := q
  cases ds with
  | nil =>
    obtain rfl : vs = [] := hv
    exact ⟨rfl, Post.okI (show Post _ E (.ok ρ S) μ H _ from p) r σ sl⟩
  | cons d ds => exact p.elim
theorem s_cons {e : Expr} {es : List Expr} {t : IT} {ts : ITs} (h1 : PG X e (gA (gX X ca) E F t)) (h2 : PGs X es (gAs (gX X ca) E F ts)) (h : (assignEach (e :: es) X.env).map (·.2) = assign e X.env :: (assignEach es X.env).map (·.2)) : PGs X (e :: es) (gAs (gX X ca) E F (.cons t ts)) := by
  refine PGs.imp (pgs_cons h1 h2 h) fun vs σ H Q q => ?_
  obtain ⟨μ, ρ, S, ds, r, sl, hv, p⟩ := q
  cases ds with
  | nil => exact p.elim
  | cons d ds =>
    obtain ⟨v, vr, rfl, hv1, hv2⟩ := hv
    have p : Post _ E ((asgT F t d ρ S).bind fun ρ' S' => asgTs F ts ds ρ' S') μ H _ := p
    exact ⟨v, vr, rfl, μ, ρ, S, d, r, sl, .inl hv1, p.bind.imp fun ρ1 S1 μ1 H1 e1 r1 q σ1 s1 => ⟨μ1, ρ1, S1, ds, r1, s1, hv2.mono e1, q⟩⟩
theorem s_tup (hc : X.calm = true) {es : List Expr} {k : Nat} {ts : ITs} {pos : Pos} (h : PGs X es (gAs (gX X ca) E F ts)) (hn : (assignEach es X.env).length = slotsTs.len ts) (hst : (assignEach es X.env).findIdx? (·.1) = none) : PG X (.Tuple es k pos) (gA (gX X ca) E F (.tup ts)) := by
  refine PG.imp (pg_tup hc h hn hst) fun v σ H Q q => ?_
  obtain ⟨μ, ρ, S, d, r, sl, hv, p⟩ := q
  cases d with
  | tup ds =>
    have p : Post _ E (if ds.length = slotsTs.len ts then asgTs F ts ds ρ S else .bad) μ H _ := p
    by_cases c : ds.length = slotsTs.len ts
    · rw [if_pos c] at p
      have key : ∃ a vs, v = .ref a ∧ SqT X.K H a vs ∧ Reps X.K μ H ds vs := by
        rcases hv with ⟨a, vs, rfl, h1, h2⟩ | ⟨_, ds', a, vs, e, rfl, h1, h2⟩
        · exact ⟨a, vs, rfl, h1.sq, h2⟩
        · cases e
          exact ⟨a, vs, rfl, h1, h2⟩
      obtain ⟨a, vs, rfl, h1, h2⟩ := key
      exact ⟨a, vs, rfl, h1, by rw [← h2.length]; exact c, μ, ρ, S, ds, r, sl, h2, p⟩
    · rw [if_neg c] at p
      exact p.elim
  | _ => exact p.elim

/-! ### statements -/
theorem PSs.imp {e : List Stmt} {t t' : TS} (h : PSs X e t) (i : ∀ D σ H, t' D σ H → t D σ H) : PSs X e t' := ⟨fun pins s σ H D I q => h.run pins s σ H D I (i D σ H q)⟩
theorem ss_nil : PSs X [] (tSs (gX X ca) E F .nil) := by
  refine PSs.imp pss_nil fun D σ H q => ?_
  obtain ⟨μ, ρ, S, r, sl, p⟩ := q
  exact PostS.okN (show PostS _ E D (.nx ρ S) μ H from p) r sl
theorem ss_cons {s : Stmt} {ss : List Stmt} {is : IS} {iss : ISs} (h : PS X s (tS (gX X ca) E F is)) (hs : PSs X ss (tSs (gX X ca) E F iss)) : PSs X (s :: ss) (tSs (gX X ca) E F (.cons is iss)) := by
  refine PSs.imp (pss_cons h hs) fun D σ H q => ?_
  obtain ⟨μ, ρ, S, r, sl, p⟩ := q
  have p : PostS _ E D ((evS F is ρ S).bind fun ρ' S' => evSs F iss ρ' S') μ H := p
  exact ⟨μ, ρ, S, r, sl, p.bind⟩
theorem st_expr {e : Expr} {ie : IE} {pos : Pos} (h : PE X e (tE (gX X ca) E F ie)) (hs : swapsWith e none pos.line X.env = pure false) : PS X (.Expr e pos) (tS (gX X ca) E F (.expr ie)) := by
  refine PS.imp (ps_expr h hs) fun D σ H q => ?_
  obtain ⟨μ, ρ, S, r, sl, p⟩ := q
  have p : PostS _ E D ((evE F ie ρ S).bindS fun _ S1 => .nx ρ S1) μ H := p
  exact ⟨μ, ρ, S, r, sl, p.bindS.imp fun d S1 μ1 H1 e1 r1 q v hv => q.okN r1 (sl.mono e1)⟩
theorem st_asg {tg e : Expr} {ie : IE} {t : IT} {pos : Pos} (h : PE X e (tE (gX X ca) E F ie)) (hg : PG X tg (gA (gX X ca) E F t)) (hs : swapsWithSole [tg] e pos.line X.env = pure false) (hw : swappedStores [tg] e X.env = pure none) (h1 : (assignEach [tg] X.env).map (·.2) = [assign tg X.env]) :
    PS X (.Assign [tg] e pos) (tS (gX X ca) E F (.asg t ie)) := by
  refine PS.imp (ps_asg h hg hs hw h1) fun D σ H q => ?_
  obtain ⟨μ, ρ, S, r, sl, p⟩ := q
  have p : PostS _ E D ((evE F ie ρ S).bindS fun d S1 => (asgT F t d ρ S1).bindS fun ρ' S' => .nx ρ' S') μ H := p
  refine ⟨μ, ρ, S, r, sl, p.bindS.imp fun d S1 μ1 H1 e1 r1 q v hv => ?_⟩
  exact ⟨μ1, ρ, S1, d, r1, sl.mono e1, .inl hv, q.bindS.imp fun ρ' S' μ' H' e' r' q σ' s' => q.okN r' s'⟩
/-- name = [..] on one line -/
theorem st_setLc {i : Nat} {y : Str} {py : Pos} {elt tg iter : Expr} {ifs : List Expr} {scope : Scope} {own : List (Str × Nat)} {pos spos : Pos} {ie : IE} {t : IT} {it : II} {c : IO} (hc : X.calm = true) (hN : X.N.Nodup) (hy : X.N[i]? = some y) (hyl : X.env.scope.names.lookup y = some .local)
    (hsw : swapsWith (.ListComp elt [⟨tg, iter, ifs, 0⟩] scope pos) (some (.Name y py)) spos.line X.env = pure true) (hi : PI X tg iter (tI (gX X ca) E F t it)) (ok : BlkOk X.N X.env.scope scope own) (ho : own.map (·.2) = slotsT t)
    (hg : ∀ (s : Shared) (H : Hp) (C : Addr) (cl : List (Str × Addr)) (fp : List Addr), PG (X.blk s H scope (compEnvC scope cl C X.env) fp) tg (gB (gX X ca) t))
    (ht : ∀ (s : Shared) (H : Hp) (C : Addr) (cl : List (Str × Addr)) (fp : List Addr), PTs (X.blk s H scope (compEnvC scope cl C X.env) fp) ifs (tC (gX X ca) E0 F c))
    (he : ∀ (s : Shared) (H : Hp) (C : Addr) (cl : List (Str × Addr)) (fp : List Addr), PE (X.blk s H scope (compEnvC scope cl C X.env) fp) elt (tE (gX X ca) E0 F ie)) (hs : ∀ x, foldedSetIterable iter X.env x = pure x) :
    PS X (.Assign [.Name y py] (.ListComp elt [⟨tg, iter, ifs, 0⟩] scope pos) spos) (tS (gX X ca) E F (.asg (.nm i) (.lc ie t it c))) := by
  refine PS.imp (ps_setLc hc hN hy hyl hsw hi ok hg ht he hs) fun D σ H q => ?_
  obtain ⟨μ, ρ, S, r, sl, p⟩ := q
  have p : PostS _ E D ((evE F (.lc ie t it c) ρ S).bindS fun d S1 => (asgT F (.nm i) d ρ S1).bindS fun ρ' S' => .nx ρ' S') μ H := p
  show tLc _ _ _ _ _ σ H _
  rw [ho]
  refine lc_read ⟨μ, ρ, S, r, sl, p.bindS.imp fun d S1 μ1 H1 e1 r1 q v hv => ?_⟩
  have q : PostS _ E D ((if i < ρ.length then Out.ok (ρ.set i (some d)) S1 else .bad).bindS fun ρ' S' => .nx ρ' S') μ1 H1 := q
  by_cases c : i < ρ.length
  · rw [if_pos c] at q
    exact q.okN r1 ((sl.mono e1).set i hv)
  · rw [if_neg c] at q
    exact q.elim
theorem st_par2 {i j : Nat} {x y : Str} {a b : Expr} {ia ib : IE} {px py pt pos : Pos} {kt k2 : Nat} {pt2 : Pos} (hc : X.calm = true) (hN : X.N.Nodup) (hi : X.N[i]? = some x) (hj : X.N[j]? = some y) (hij : i ≠ j)
    (hx : X.env.scope.names.lookup x = some .local) (hy : X.env.scope.names.lookup y = some .local) (ha : PA X [a, b] (tEs (gX X ca) E F (.cons ia (.cons ib .nil))))
    (hw : swappedStores [.Tuple [.Name x px, .Name y py] kt pt] (.Tuple [a, b] k2 pt2) X.env = pure (some [x, y]))
    (hs : swapsWithSole [.Tuple [.Name x px, .Name y py] kt pt] (.Tuple [a, b] k2 pt2) pos.line X.env = pure false) :
    PS X (.Assign [.Tuple [.Name x px, .Name y py] kt pt] (.Tuple [a, b] k2 pt2) pos) (tS (gX X ca) E F (.par2 i j ia ib)) := by
  refine PS.imp (ps_par hc hN hi hj hij hx hy ha hw hs) fun D σ H q => ?_
  obtain ⟨μ, ρ, S, r, sl, p⟩ := q
  have p : PostS _ E D ((evE F ia ρ S).bindS fun d S1 => (evE F ib ρ S1).bindS fun d' S2 => if i < ρ.length ∧ j < ρ.length then .nx ((ρ.set i (some d)).set j (some d')) S2 else .bad) μ H := p
  refine ⟨μ, ρ, S, r, sl, ?_⟩
  have key : Post (gX X ca) E (evEs F (.cons ia (.cons ib .nil)) ρ S) μ H fun ds S2 μ2 H2 => ∃ d d', ds = [d, d'] ∧ PostS (gX X ca) E D (if i < ρ.length ∧ j < ρ.length then .nx ((ρ.set i (some d)).set j (some d')) S2 else .bad) μ2 H2 := by
    show Post _ E ((evE F ia ρ S).bind fun d S1 => ((evE F ib ρ S1).bind fun d' S2 => (Out.ok ([] : List Iv.D) S2).bind fun ds S3 => .ok (d' :: ds) S3).bind fun ds S2 => .ok (d :: ds) S2) μ H _
    cases h1 : evE F ia ρ S with
    | ok d S1 =>
      rw [h1] at p
      have p : PostS _ E D ((evE F ib ρ S1).bindS fun d' S2 => if i < ρ.length ∧ j < ρ.length then .nx ((ρ.set i (some d)).set j (some d')) S2 else .bad) μ H := p
      show Post _ E (((evE F ib ρ S1).bind fun d' S2 => (Out.ok ([] : List Iv.D) S2).bind fun ds S3 => .ok (d' :: ds) S3).bind fun ds S2 => .ok (d :: ds) S2) μ H _
      cases h2 : evE F ib ρ S1 with
      | ok d' S2 =>
        rw [h2] at p
        exact fun μ' H' e' r' => ⟨d, d', rfl, PostS.pre e' p⟩
      | ex c fs S2 => rw [h2] at p; exact p
      | bad => rw [h2] at p; exact p
    | ex c fs S1 => rw [h1] at p; exact p
    | bad => rw [h1] at p; exact p
  refine key.imp fun ds S2 μ2 H2 e2 r2 ⟨d, d', e, q⟩ vs hv => ?_
  subst e
  obtain ⟨v, v', rfl, h1, h2⟩ := args2 hv
  by_cases c : i < ρ.length ∧ j < ρ.length
  · rw [if_pos c] at q
    exact ⟨v, v', rfl, q.okN r2 (((sl.mono e2).set i h1).set j h2)⟩
  · rw [if_neg c] at q
    exact q.elim
theorem st_retN {pos : Pos} : PS X (.Return none pos) (tS (gX X ca) E F (.ret .none)) := by
  refine PS.imp ps_retN fun D σ H q => ?_
  obtain ⟨μ, ρ, S, r, sl, p⟩ := q
  exact (show PostS _ E D (.rt .non S) μ H from p) μ H _ Ext.refl r rfl
theorem st_ret {e : Expr} {ie : IE} {pos : Pos} (h : PE X e (tE (gX X ca) E F ie)) : PS X (.Return (some e) pos) (tS (gX X ca) E F (.ret (.some ie))) := by
  refine PS.imp (ps_ret h) fun D σ H q => ?_
  obtain ⟨μ, ρ, S, r, sl, p⟩ := q
  have p : PostS _ E D ((evE F ie ρ S).bindS fun d S1 => .rt d S1) μ H := p
  exact ⟨μ, ρ, S, r, sl, p.bindS.imp fun d S1 μ1 H1 e1 r1 q v hv => q μ1 H1 v Ext.refl r1 hv⟩
theorem st_pass {pos : Pos} : PS X (.Pass pos) (tS (gX X ca) E F .pas) := by
  refine PS.imp ps_pass fun D σ H q => ?_
  obtain ⟨μ, ρ, S, r, sl, p⟩ := q
  exact PostS.okN (show PostS _ E D (.nx ρ S) μ H from p) r sl
theorem st_brk {pos : Pos} : PS X (.Break pos) (tS (gX X ca) E F .brk) := by
  refine PS.imp ps_break fun D σ H q => ?_
  obtain ⟨μ, ρ, S, r, sl, p⟩ := q
  exact (show PostS _ E D (.bk ρ S) μ H from p) μ H σ Ext.refl r sl
theorem st_cnt {pos : Pos} : PS X (.Continue pos) (tS (gX X ca) E F .cnt) := by
  refine PS.imp ps_continue fun D σ H q => ?_
  obtain ⟨μ, ρ, S, r, sl, p⟩ := q
  exact (show PostS _ E D (.ct ρ S) μ H from p) μ H σ Ext.refl r sl
theorem st_if {c : Expr} {a b : List Stmt} {ic : IE} {ia ib : ISs} {pos : Pos} (hc : PT X c (tT (gX X ca) E F ic)) (ha : PSs X a (tSs (gX X ca) E F ia)) (hb : PSs X b (tSs (gX X ca) E F ib)) : PS X (.If c a b pos) (tS (gX X ca) E F (.ife ic ia ib)) := by
  refine PS.imp (ps_if hc ha hb) fun D σ H q => ?_
  obtain ⟨μ, ρ, S, r, sl, p⟩ := q
  have p : PostS _ E D (((evE F ic ρ S).bind truO).bindS fun k S1 => if k then evSs F ia ρ S1 else evSs F ib ρ S1) μ H := p
  refine ⟨μ, ρ, S, r, sl, p.bindS.imp fun k S1 μ1 H1 e1 r1 q => ?_⟩
  cases k with
  | true => exact iteT ⟨μ1, ρ, S1, r1, sl.mono e1, q⟩
  | false => exact iteF ⟨μ1, ρ, S1, r1, sl.mono e1, q⟩
/-- name op= e, numbers -/
theorem ip_int {op : Operator} (h : op = .Add ∨ op = .Sub) : PIp X op fun x y H Q => ∃ i j z, x = .int i ∧ y = .int j ∧ opI op i j = some z ∧ Q (.int z) H := by
  intro pins s σ H x y v u Q I r1 r2 q
  obtain ⟨i, j, z, rfl, rfl, e, q⟩ := q
  rcases h with rfl | rfl
  · cases e
    exact ip_add pins s σ H _ _ v u Q I r1 r2 ⟨i, j, rfl, rfl, q⟩
  · cases e
    exact ip_sub pins s σ H _ _ v u Q I r1 r2 ⟨i, j, rfl, rfl, q⟩
theorem st_aug {i : Nat} {x : Str} {e : Expr} {ie : IE} {op : Operator} {pos pos' : Pos} (h : PE X e (tE (gX X ca) E F ie)) (hop : op = .Add ∨ op = .Sub) (hN : X.N.Nodup) (hi : X.N[i]? = some x) (hx : Loc X.env.scope x) (hf : X.fn x = true ∨ X.env.scope.names.lookup x = some .local) :
    PS X (.AugAssign (.Name x pos') op e pos) (tS (gX X ca) E F (.aug op i ie)) := by
  refine PS.imp (ps_aug hN hi hx h (ip_int hop) hf) fun D σ H q => ?_
  obtain ⟨μ, ρ, S, r, sl, p⟩ := q
  have p : PostS _ E D (match ρ[i]? with
    | some (some (.int a)) => (evE F ie ρ S).bindS fun y S1 => match y with
      | .int b => match opI op a b with
        | some r => .nx (ρ.set i (some (.int r))) S1
        | none => .bad
      | _ => .bad
    | _ => .bad) μ H := p
  split at p
  · rename_i a ha
    obtain ⟨v, h1, h2⟩ := sl.2 i _ ha
    obtain rfl : v = .int a := h2
    refine ⟨.int a, h1, μ, ρ, S, r, sl, p.bindS.imp fun d S1 μ1 H1 e1 r1 q w hw => ?_⟩
    cases d with
    | int b =>
      obtain rfl : w = .int b := hw
      have q : PostS _ E D (match opI op a b with | some r => .nx (ρ.set i (some (.int r))) S1 | none => .bad) μ1 H1 := q
      cases ho : opI op a b with
      | none => rw [ho] at q; exact q.elim
      | some z =>
        rw [ho] at q
        exact ⟨a, b, z, rfl, rfl, ho, q.okN r1 ((sl.mono e1).set i (d := .int z) (v := .int z) rfl)⟩
    | _ => exact q.elim
  · exact p.elim
/-! ### loops -/
theorem st_whl {c : Expr} {b : List Stmt} {ic : IE} {ib : ISs} {pos : Pos} (hp : PassesOwn (model X.prog X.w) X.A X.env X.xe) (hc : PT X c (tT (gX X ca) E F ic)) (hb : PSs X b (tSs (gX X ca) E F ib)) : PS X (.While c b [] pos) (tS (gX X ca) E F (.whl ic ib)) := by
  refine PS.imp (ps_while hp hc hb) fun D σ H q => ?_
  obtain ⟨μ, ρ, S, r, sl, p⟩ := q
  have p : PostS _ E D (loopW (fun ρ S => (evE F ic ρ S).bind truO) (evSs F ib) fuelW ρ S) μ H := p
  refine ⟨fun m σ H => ∃ μ ρ S, Rel (gX X ca) μ S H ∧ Slots X.K μ H σ ρ ∧ PostS (gX X ca) E D (loopW (fun ρ S => (evE F ic ρ S).bind truO) (evSs F ib) m ρ S) μ H, ⟨fuelW, μ, ρ, S, r, sl, p⟩, ?_⟩
  rintro m σ H ⟨μ, ρ, S, r, sl, p⟩
  cases m with
  | zero => exact p.elim
  | succ m =>
    have p : PostS _ E D (((evE F ic ρ S).bind truO).bindS fun b S1 => if b then
      match evSs F ib ρ S1 with
      | .nx ρ' S' => loopW (fun ρ S => (evE F ic ρ S).bind truO) (evSs F ib) m ρ' S'
      | .ct ρ' S' => loopW (fun ρ S => (evE F ic ρ S).bind truO) (evSs F ib) m ρ' S'
      | .bk ρ' S' => .nx ρ' S'
      | o => o
    else .nx ρ S1) μ H := p
    refine ⟨μ, ρ, S, r, sl, p.bindS.imp fun k S1 μ1 H1 e1 r1 q => ?_⟩
    cases k with
    | false => exact iteF (PostS.okN (show PostS _ E D (.nx ρ S1) μ1 H1 from q) r1 (sl.mono e1))
    | true =>
      refine iteT ⟨fun σ' H' => ∃ μ ρ S, Rel (gX X ca) μ S H' ∧ Slots X.K μ H' σ' ρ ∧ PostS (gX X ca) E D (loopW (fun ρ S => (evE F ic ρ S).bind truO) (evSs F ib) m ρ S) μ H', fun σ' H' n => ⟨m, Nat.lt_succ_self m, n⟩, μ1, ρ, S1, r1, sl.mono e1, ?_⟩
      rw [if_pos rfl] at q
      cases hb : evSs F ib ρ S1 with
      | nx ρ' S' => rw [hb] at q; exact fun μ' H' σ' e' r' s' => ⟨μ', ρ', S', r', s', PostS.pre e' q⟩
      | ct ρ' S' => rw [hb] at q; exact fun μ' H' σ' e' r' s' => ⟨μ', ρ', S', r', s', PostS.pre e' q⟩
      | bk ρ' S' => rw [hb] at q; exact q
      | rt d S' => rw [hb] at q; exact q
      | ex c fs S' => rw [hb] at q; exact q
      | bad => rw [hb] at q; exact q
theorem for_read {t : IT} {ib : ISs} {items : List D} {src : Src} {J : It} {D : Ends} {μ1 : List Addr} {H1 : Hp} {S1 : Store} {σ : L2.St} {ρ : Env} (r1 : Rel (gX X ca) μ1 S1 H1) (sl : Slots X.K μ1 H1 σ ρ) (ok : ItOk (gX X ca) t J items src μ1 H1)
    (p : PostS (gX X ca) E D (loopF src (fun x ρ S => (asgT F t x ρ S).bindS fun ρ' S' => evSs F ib ρ' S') items ρ S1) μ1 H1) :
    ∃ W : Nat → Nat → L2.St → Hp → Prop, (∃ m, W 0 m σ H1) ∧ ∀ i m σ H, W i m σ H →
      (J.stop i H ∧ D.nx σ H) ∨ (J.go i H ∧ ∃ N : L2.St → Hp → Prop, (∀ σ' H', N σ' H' → ∃ m', m' < m ∧ W (i + 1) m' σ' H') ∧ ∀ x H', J.yld i H x H' → gA (gX X ca) E F t x σ H' fun σ2 H2 => tSs (gX X ca) E F ib { D with nx := N, ct := N, bk := D.nx } σ2 H2) := by
  generalize hf : (fun x ρ S => (asgT F t x ρ S).bindS fun ρ' S' => evSs F ib ρ' S') = f at p
  refine ⟨fun i m σ H => m = items.length - i ∧ ∃ μ ρ S, Ext X.K μ1 μ H1 H ∧ Rel (gX X ca) μ S H ∧ Slots X.K μ H σ ρ ∧ PostS (gX X ca) E D (loopF src f (items.drop i) ρ S) μ H, ⟨items.length, by simp, μ1, ρ, S1, Ext.refl, r1, sl, by rw [List.drop_zero]; exact p⟩, ?_⟩
  rintro i m σ H ⟨rfl, μ, ρ, S, e, r, sl, p⟩
  cases hd : items.drop i with
  | nil =>
    rw [hd] at p
    have p : PostS _ E D (if src.ok S = true then .nx ρ S else .bad) μ H := p
    by_cases k : src.ok S = true
    · rw [if_pos k] at p
      exact .inl ⟨ok.stop μ S H i e r k (List.drop_eq_nil_iff.mp hd), p.okN r sl⟩
    · rw [if_neg k] at p
      exact p.elim
  | cons x xs =>
    rw [hd] at p
    have hi : i < items.length := by
      have : (items.drop i).length ≠ 0 := by rw [hd]; simp
      rw [List.length_drop] at this
      omega
    have hxi : items[i]? = some x := by
      have : (items.drop i)[0]? = some x := by rw [hd]; rfl
      simpa using this
    have hdx : items.drop (i + 1) = xs := by
      rw [← List.drop_drop, hd] <;> rfl
    have p : PostS _ E D (if src.ok S = true then
      match f x ρ S with
      | .nx ρ' S' => loopF src f xs ρ' S'
      | .ct ρ' S' => loopF src f xs ρ' S'
      | .bk ρ' S' => .nx ρ' S'
      | o => o
    else .bad) μ H := p
    by_cases k : src.ok S = true
    · rw [if_pos k] at p
      obtain ⟨hgo, hyl⟩ := ok.go i x μ S H e r k hxi
      refine .inr ⟨hgo, fun σ' H' => ∃ μ' ρ' S', Ext X.K μ1 μ' H1 H' ∧ Rel (gX X ca) μ' S' H' ∧ Slots X.K μ' H' σ' ρ' ∧ PostS (gX X ca) E D (loopF src f xs ρ' S') μ' H',
        fun σ' H' n => ⟨items.length - (i + 1), by omega, rfl, by rw [hdx]; exact n⟩, fun v H2 y => ?_⟩
      obtain ⟨e2, r2, hv⟩ := hyl v H2 y
      have e12 := e.trans e2
      have hb : f x ρ S = (asgT F t x ρ S).bindS fun ρ' S' => evSs F ib ρ' S' := by rw [← hf]
      have q : PostS (gX X ca) E { D with nx := fun σ' H' => ∃ μ' ρ' S', Ext X.K μ1 μ' H1 H' ∧ Rel (gX X ca) μ' S' H' ∧ Slots X.K μ' H' σ' ρ' ∧ PostS (gX X ca) E D (loopF src f xs ρ' S') μ' H', ct := fun σ' H' => ∃ μ' ρ' S', Ext X.K μ1 μ' H1 H' ∧ Rel (gX X ca) μ' S' H' ∧ Slots X.K μ' H' σ' ρ' ∧ PostS (gX X ca) E D (loopF src f xs ρ' S') μ' H', bk := D.nx } (f x ρ S) μ H2 := by
        cases hfx : f x ρ S with
        | nx ρ' S' => rw [hfx] at p; exact fun μ' H' σ' e' r' s' => ⟨μ', ρ', S', e12.trans e', r', s', PostS.pre (e2.trans e') p⟩
        | ct ρ' S' => rw [hfx] at p; exact fun μ' H' σ' e' r' s' => ⟨μ', ρ', S', e12.trans e', r', s', PostS.pre (e2.trans e') p⟩
        | bk ρ' S' => rw [hfx] at p; exact fun μ' H' σ' e' r' s' => p μ' H' σ' (e2.trans e') r' s'
        | rt d S' => rw [hfx] at p; exact fun μ' H' σ' e' r' s' => p μ' H' σ' (e2.trans e') r' s'
        | ex c fs S' => rw [hfx] at p; exact fun μ' H' cls d e' r' s' => p μ' H' cls d (e2.trans e') r' s'
        | bad => rw [hfx] at p; exact p
      rw [hb] at q
      exact ⟨μ, ρ, S, x, r2, sl.mono e2, hv, q.bindS.imp fun ρ' S' μ' H' e' r' q σ' s' => ⟨μ', ρ', S', r', s', q⟩⟩
    · rw [if_neg k] at p
      exact p.elim
theorem st_for {tg iter : Expr} {b : List Stmt} {t : IT} {it : II} {ib : ISs} {pos : Pos} (hp : PassesOwn (model X.prog X.w) X.A X.env X.xe) (hc : X.calm = true) (hi : PI X tg iter (tI (gX X ca) E F t it)) (hg : PG X tg (gA (gX X ca) E F t)) (hb : PSs X b (tSs (gX X ca) E F ib))
    (hs : ∀ x, foldedSetIterable iter X.env x = pure x) : PS X (.For tg iter b [] pos) (tS (gX X ca) E F (.for_ t it ib)) := by
  refine PS.imp (ps_for hp hc hi hg hb hs) fun D σ H q => ?_
  obtain ⟨μ, ρ, S, r, sl, p⟩ := q
  have p : PostS _ E D ((evI F it ρ S).bindS fun p S1 => loopF p.2 (fun x ρ S => (asgT F t x ρ S).bindS fun ρ' S' => evSs F ib ρ' S') p.1 ρ S1) μ H := p
  refine ⟨μ, ρ, S, r, sl, p.bindS.imp fun ps S1 μ1 H1 e1 r1 q J ok => ?_⟩
  exact for_read r1 (sl.mono e1) ok q
end
end Iv

set_option maxRecDepth 10000
/-! IvA: a loop over a dict; dict, sorted, repr, displays of dicts and sets. -/
namespace Iv
open PySem PySem.Spec PyProof.Rows L2
/-! ### locked and unlocked -/
section
variable {K : PySem.W.Frag} {μ : List Addr} {H : Hp} {d : Addr} {od : Obj} {kv : List (L2.Key × V)} {u : HO}
mutual
theorem Rep.unl (h : H d = some (.frz od (.dK kv))) : ∀ {x : D} {v : V}, Rep K μ H x v → Rep K μ (upd H d u) x v
  | .non, _, z | .bl _, _, z | .int _, _, z | .str _, _, z => z
  | .loc n, _, z => z
  | .tup ds, _, z => by
    obtain ⟨a, vs, h1, ⟨o, h2, h2'⟩, h3⟩ := z
    refine ⟨a, vs, h1, ⟨o, ?_, h2'⟩, Reps.unl h h3⟩
    rw [upd_ne]
    · exact h2
    · rintro rfl
      rw [h] at h2
      cases h2
  | .rol ds, _, z => by
    obtain ⟨a, vs, h1, h2, h3⟩ := z
    refine ⟨a, vs, h1, ?_, Reps.unl h h3⟩
    rcases h2 with ⟨o, h2⟩ | h2
    · refine .inl ⟨o, ?_⟩
      rw [upd_ne]
      · exact h2
      · rintro rfl
        rw [h] at h2
        cases h2
    · exact .inr h2
theorem Reps.unl (h : H d = some (.frz od (.dK kv))) : ∀ {xs : List D} {vs : List V}, Reps K μ H xs vs → Reps K μ (upd H d u) xs vs
  | [], _, z => z
  | x :: xs, _, z => by
    obtain ⟨v, r, h0, h1, h2⟩ := z
    exact ⟨v, r, h0, Rep.unl h h1, Reps.unl h h2⟩
end
theorem cell_unl {g : G} {a : Addr} (h : H d = some (.frz od (.dK kv))) (hn : a ≠ d) : ∀ {c : Cell}, CellOk g μ H a c → CellOk g μ (upd H d u) a c
  | .lst _, z => by
    obtain ⟨vs, h1, h2⟩ := z
    exact ⟨vs, (upd_ne hn).trans h1, Reps.unl h h2⟩
  | .dct true _, z => by
    obtain ⟨vs, ⟨o, h1⟩, h2, h3⟩ := z
    exact ⟨vs, ⟨o, (upd_ne hn).trans h1⟩, h2, Reps.unl h h3⟩
  | .dct false _, z => by
    obtain ⟨vs, h1, h2, h3⟩ := z
    exact ⟨vs, (upd_ne hn).trans h1, h2, Reps.unl h h3⟩
  | .dtp _, z => z.1.elim
  | .set _, z => ⟨(upd_ne hn).trans z.1, z.2⟩
  | .ins _ _, z => by
    obtain ⟨dx, fs, h1, h2, h3⟩ := z
    exact ⟨dx, fs, (upd_ne hn).trans h1, h2, Reps.unl h h3⟩
theorem Rel.unl {g : G} {S : Store} {n : Nat} {kvs : List (Key × D)} (r : Rel g μ S H) (hd : μ[n]? = some d) (h : H d = some (.frz od (.dK kv))) (hs : S[n]? = some (.dct true kvs)) : Rel g μ (S.set n (.dct false kvs)) (upd H d (.dK kv)) := by
  refine ⟨by simp [r.len], r.nd, fun i a c hb hc => ?_⟩
  by_cases e : i = n
  · subst e
    rw [hd] at hb
    cases hb
    have hi : i < S.length := by rw [← r.len]; exact (List.getElem?_eq_some_iff.mp hd).1
    rw [List.getElem?_set_self hi] at hc
    cases hc
    obtain ⟨kv2, h1, h2, h3⟩ := r.at_ i _ _ hd hs
    obtain ⟨o, h1⟩ := (show ∃ o, H d = some (.frz o (.dK kv2)) from h1)
    rw [h] at h1
    cases h1
    exact ⟨kv, upd_same, h2, Reps.unl h h3⟩
  · rw [List.getElem?_set_ne (Ne.symm e)] at hc
    refine cell_unl h (fun z => e ?_) (r.at_ i a c hb hc)
    subst z
    exact (List.getElem?_inj (List.getElem?_eq_some_iff.mp hb).1 r.nd).mp (hb.trans hd.symm)
theorem Ext.unl {μ' : List Addr} {H0 H' : Hp} (hm : d ∈ μ) (h0 : H0 d = some (.dK kv)) (e : Ext K μ μ' (upd H0 d (.frz od (.dK kv))) H') : Ext K μ μ' H0 (upd H' d (.dK kv)) := by
  refine ⟨e.pre, fun b hb hn => ?_, fun b o hb hn => ?_, fun b o u hb => ?_⟩
  · have z := e.fresh b hb hn
    rw [upd_ne (fun q => hn (by rw [q]; exact hm))] at z
    exact z
  · have nb : b ≠ d := fun q => hn (by rw [q]; exact hm)
    rw [upd_ne nb]
    exact e.keep b o (by rw [upd_ne nb]; exact hb) hn
  · have nb : b ≠ d := fun q => by rw [q, h0] at hb; cases hb
    rw [upd_ne nb]
    exact e.frz b o u (by rw [upd_ne nb]; exact hb)
end
section
variable {X : Cx} {ca : Nat → Addr} {E : XK} {F : Fns} {t : IT}
theorem it_keys {μ1 : List Addr} {H1 : Hp} {d : Addr} {od : Obj} {kvs : List (Key × D)} {kv : List (L2.Key × V)} {n : Nat} (h : H1 d = some (.frz od (.dK kv))) (hk : kvs.map (·.1) = kv.map (·.1)) :
    ItOk (gX X ca) t (Itk d od kv) (kvs.map fun p => ofKey p.1) (.dct n kvs) μ1 H1 := by
  have hl : kvs.length = kv.length := by simpa using congrArg List.length hk
  refine ⟨fun i x μ' S' H' e r ok hi => ?_, fun μ' S' H' i e r ok hi => ⟨e.frz _ _ _ h, by rw [← hl]; simpa using hi⟩⟩
  rw [List.getElem?_map] at hi
  obtain ⟨p, hp, rfl⟩ := Option.map_eq_some_iff.mp hi
  refine ⟨⟨e.frz _ _ _ h, by rw [← hl]; exact (List.getElem?_eq_some_iff.mp hp).1⟩, fun v H2 y => ?_⟩
  obtain ⟨rfl, k, v', hkv, rfl⟩ := y
  refine ⟨Ext.refl, r, .inl ?_⟩
  have e1 : (kvs.map (·.1))[i]? = some p.1 := by rw [List.getElem?_map, hp]; rfl
  rw [hk, List.getElem?_map, hkv] at e1
  have : p.1 = k := (Option.some.inj e1).symm
  rw [this]
  cases k <;> rfl
theorem st_forK {tg : Expr} {b : List Stmt} {i : Nat} {x : Str} {ib : ISs} {pos p : Pos} (hp : PassesOwn (model X.prog X.w) X.A X.env X.xe) (hc : X.calm = true) (hv : PE X (.Name x p) (tVar i)) (hg : PG X tg (gA (gX X ca) E F t)) (hb : PSs X b (tSs (gX X ca) E F ib)) :
    PS X (.For tg (.Name x p) b [] pos) (tS (gX X ca) E F (.forK t i ib)) := by
  refine PS.imp (ps_lock (ps_for hp hc (pi_keys hv) hg hb fun _ => rfl)) fun D σ H q => ?_
  obtain ⟨μ, ρ, S, r, sl, p⟩ := q
  have p : PostS _ E D (match ρ[i]? with
    | some (some (.loc n)) => match S[n]? with
      | some (.dct false kvs) => unlock n kvs (loopF (.dct n kvs) (fun x ρ S => (asgT F t x ρ S).bindS fun ρ' S' => evSs F ib ρ' S') (kvs.map fun p => ofKey p.1) ρ (lockS n kvs S))
      | _ => .bad
    | _ => .bad) μ H := p
  split at p
  · rename_i n hn
    obtain ⟨v, hv1, a, ha, rfl⟩ := sl.2 i _ hn
    split at p
    · rename_i kvs hs
      obtain ⟨kv, h1, h2, h3⟩ := r.at_ n a _ ha hs
      have h1 : H a = some (.dK kv) := h1
      refine ⟨a, .dK kv, h1, trivial, fun od => ⟨.ref a, hv1, a, od, rfl, .inl ⟨kv, upd_same, ?_⟩⟩⟩
      have hm : a ∈ μ := List.mem_of_getElem? ha
      have n1 : ∀ q u, H a ≠ some (.frz q u) := fun q u e => by rw [h1] at e; cases e
      have e1 : Ext X.K μ μ H (upd H a (.frz od (.dK kv))) := Ext.put hm n1
      have r1 : Rel (gX X ca) μ (lockS n kvs S) (upd H a (.frz od (.dK kv))) := r.put ha n1 ⟨kv, ⟨od, upd_same⟩, h2, Reps.mono e1 h3⟩
      refine for_read (S1 := lockS n kvs S) (src := .dct n kvs) r1 (sl.mono e1) (it_keys upd_same h2) ?_
      revert p
      generalize loopF (.dct n kvs) (fun x ρ S => (asgT F t x ρ S).bindS fun ρ' S' => evSs F ib ρ' S') (kvs.map fun p => ofKey p.1) ρ (lockS n kvs S) = o
      intro p
      have key : ∀ {f : Store → OutS} {S' : Store} {μ' : List Addr} {H' : Hp}, PostS (gX X ca) E D (unlockO n kvs S' f) μ H → Ext X.K μ μ' (upd H a (.frz od (.dK kv))) H' → Rel (gX X ca) μ' S' H' →
          H' a = some (.frz od (.dK kv)) ∧ Rel (gX X ca) μ' (S'.set n (.dct false kvs)) (upd H' a (.dK kv)) ∧ Ext X.K μ μ' H (upd H' a (.dK kv)) ∧ PostS (gX X ca) E D (f (S'.set n (.dct false kvs))) μ H := fun {f S' μ' H'} p e r' => by
        have z : H' a = some (.frz od (.dK kv)) := e.frz _ _ _ upd_same
        unfold unlockO at p
        by_cases c : S'[n]? = some (.dct true kvs)
        · rw [if_pos c] at p
          exact ⟨z, r'.unl (e.at_ ha) z c, Ext.unl hm h1 e, p⟩
        · rw [if_neg c] at p
          exact p.elim
      have sk : ∀ {σ' : L2.St} {ρ' : Env} {μ' : List Addr} {H' : Hp}, H' a = some (.frz od (.dK kv)) → Slots X.K μ' H' σ' ρ' → Slots X.K μ' (upd H' a (.dK kv)) σ' ρ' := fun z s' => ⟨s'.1, fun i d hd => by
        obtain ⟨v, q1, q2⟩ := s'.2 i d hd
        exact ⟨v, q1, Rep.unl z q2⟩⟩
      cases o with
      | nx ρ' S' =>
        intro μ' H' σ' e r' s'
        obtain ⟨z, r2, e2, p2⟩ := key p e r'
        exact ⟨z, p2 μ' _ σ' e2 r2 (sk z s')⟩
      | rt d' S' =>
        intro μ' H' v e r' hv
        obtain ⟨z, r2, e2, p2⟩ := key p e r'
        exact ⟨z, p2 μ' _ v e2 r2 (Rep.unl z hv)⟩
      | bk ρ' S' =>
        intro μ' H' σ' e r' s'
        obtain ⟨z, r2, e2, p2⟩ := key p e r'
        exact ⟨z, p2 μ' _ σ' e2 r2 (sk z s')⟩
      | ct ρ' S' =>
        intro μ' H' σ' e r' s'
        obtain ⟨z, r2, e2, p2⟩ := key p e r'
        exact ⟨z, p2 μ' _ σ' e2 r2 (sk z s')⟩
      | ex c fs S' => exact p.elim
      | bad => exact p.elim
    · exact p.elim
  · exact p.elim
end
end Iv

set_option maxRecDepth 100000
set_option maxHeartbeats 2000000
/-! IvJ: sorted of a tuple. -/
namespace Iv
open PySem PySem.Spec PyProof.Rows L2
section
variable {prog : Program} {w : World} {A : Around} {E : Value → Shared → Prop} {s : Shared}
/-- a tuple's items, collected: list.extend on a new list takes them at once -/
theorem collect_tup {l : Addr} {vs : List Value} {Q : List Value → Shared → Prop} (hl : s.heap.IsTuple l vs.toArray) (hsz : vs.length ≤ sizeLine)
    (h : Q vs { s with heap := (s.heap.push (seqObj "list" #[] 0)).update s.heap.objs.size (Obj.mapSeq (· ++ vs.toArray)) }) : wpAny (model prog w) A (collect (.ref l)) Q E s := by
  obtain ⟨o, ho, hc, n, hd⟩ := id hl
  unfold collect
  refine wpAny_bind (wpAny_runValue (codeAny_builtin entry_proto_collect' ?_))
  show wpAny _ _ (do again (.builtin "list.__iadd__" ⟨[← newList [], .ref l], []⟩)) _ _ s
  refine wpAny_bind (wpAny_newList (wpAny_pure ⟨Code.quiet_builtin _ (by decide +kernel), codeAny_builtin entry_list_iadd' ?_⟩))
  show wpAny _ _ (Builtin.List.listExtendWith (.ref s.heap.objs.size) (.ref l) (.ref s.heap.objs.size)) _ _ { s with heap := s.heap.push (seqObj "list" #[] 0) }
  have old : (s.heap.push (seqObj "list" #[] 0)).get? l = some o := Heap.get?_push_of_some _ ho
  have new : (s.heap.push (seqObj "list" #[] 0)).get? s.heap.objs.size = some (seqObj "list" #[] 0) := Heap.get?_push_size _ rfl
  unfold Builtin.List.listExtendWith
  refine wpAny_bind (wpAny_typeOf (T := "tuple") ⟨o, old, hc⟩ ?_)
  have ht : (Value.type "tuple" == Value.type "tuple") = true := by rfl
  rw [if_pos (by rw [ht]; simp)]
  refine wpAny_bind (listItems_at old hd (wpAny_bind (listItems_at (xs := #[]) (n := 0) new rfl ?_)))
  rw [if_neg (by simp)]
  refine wpAny_bind (listUpdate_at (xs := #[]) (n := 0) new rfl (wpAny_pure ?_) (Nat.zero_le _) (by show (#[] ++ vs.toArray).size ≤ sizeLine + 1; simp only [Array.size_append, List.size_toArray, List.length_nil]; omega))
  show wpAny (model prog w) A (do
      let o ← load s.heap.objs.size
      match o.data with
      | .seq xs _ => pure xs.toList
      | _ => unsupported "internal:collect") Q E { s with heap := (s.heap.push (seqObj "list" #[] 0)).update s.heap.objs.size (Obj.mapSeq (· ++ vs.toArray)) }
  refine wpAny_bind (wpAny_load (get?_update_seq new _) ?_)
  show wpAny _ _ (pure ((#[] : Array Value) ++ vs.toArray).toList) Q E _
  rw [show ((#[] : Array Value) ++ vs.toArray).toList = vs by simp]
  exact wpAny_pure h
open PySem.W PySem.Calls in
theorem sorted_tup {β : Type} {vs : List Value} {bs : List β} {enc : β → PyData} {R : Value → β → Prop} {l : Addr} {Q : Value → Shared → Prop} (hl : s.heap.IsTuple l vs.toArray) (e : EachIs R vs bs) (er : EachIs (fun v b => ∃ as, Reads s.heap v (enc b) as) vs bs) (hal : PySem.W.AllAlike (bs.map enc)) (hk : PySem.W.Sortable (bs.map enc)) (hL : bs.length ≤ sizeLine)
    (hu : ∀ b, b ∈ bs → A.units + 2 + (enc b).depth < cLine) (h : ∀ out, out.length = bs.length → EachIs R out (bs.mergeSort (PySem.W.dataLe false enc)) → Q (.ref (s.heap.objs.size + 1)) { s with heap := sortedAll s.heap vs (List.toArray out) }) :
    wpAny (model prog w) A (call (.builtin "sorted") [.ref l]) Q E s := by
  have er' : EachIs (fun v b => ∃ as, Reads (sortingHeap (copyHeap s.heap vs) (s.heap.objs.size + 1) vs) v (enc b) as) vs bs := er.mono fun _ _ ⟨as, r⟩ => ⟨as, PyProof.Rows.Reads.keeps (fun _ _ => sorting_copy_old) r⟩
  have hL' : vs.length ≤ sizeLine := by rw [e.length]; exact hL
  have S := SortsAt.data (prog := prog) (w := w) (A := A.in1.in1) (s := { s with heap := sortingHeap (copyHeap s.heap vs) (s.heap.objs.size + 1) vs }) (each_map (R := fun v d => ∃ as, Reads (sortingHeap (copyHeap s.heap vs) (s.heap.objs.size + 1) vs) v d as) enc er') hal hk (bound_map hu)
  have fin := h _ (by rw [sortVals_length false rfl]; exact e.length) (sortVals_data false e er' hal)
  refine call_function_entry_kw kind_sorted plain_sorted entry_sorted (args_sorted1 _) ?_
  unfold Builtin.«sorted»
  refine wpAny_bind (m := checkCount "sorted" 1 1 _) (wpAny_pure ?_)
  refine wpAny_bind (collect_tup hl hL' (wpAny_bind (wpAny_newList ?_ hL')))
  have hsz : ((s.heap.push (seqObj "list" #[] 0)).update s.heap.objs.size (Obj.mapSeq (· ++ vs.toArray))).objs.size = s.heap.objs.size + 1 := by
    rw [Heap.size_update, size_push']
  show wpAny _ _ _ _ _ { s with heap := copyHeap s.heap vs }
  rw [hsz]
  refine wpAny_bind (wpAny_holding (wpAny_call_entry_kw slot_list_sort ⟨_, copyHeap_at s.heap vs, rfl⟩ entry_list_sort ?_ (args_list_sort _)))
  refine wpAny_mono (list_sort_vals (P := fun f s' => f = .done (.ret .none) ∧ s' = { s with heap := sortedAll s.heap vs (sortVals _ false vs vs).toArray }) (s := { s with heap := copyHeap s.heap vs }) (copyHeap_at s.heap vs) S hL' ⟨rfl, rfl⟩) (fun f s' hf => ?_) fun _ _ e => e
  obtain ⟨rfl, rfl⟩ := hf
  exact ⟨_, rfl, wpAny_pure ⟨_, rfl, fin⟩⟩
end
section
variable {X : Cx} {ca : Nat → Addr} {E : XK}
theorem sort_tuple (hu : X.A.units + 100 < cLine) {pins : List (Addr × Obj)} {s : Shared} {σ : L2.St} {H : Hp} {Q : VK} {μ : List Addr} {S : Store} {xs ys : List D} {a : Addr} {vs : List V} (I : Inv X pins σ H s) (r : Rel (gX X ca) μ S H) (hs : SqT X.K H a vs) (hr : Reps X.K μ H xs vs)
    (e : sortD S xs = some ys) (q : ∀ p ws, H p = none → Reps X.K μ H ys ws → Q (.ref p) (upd H p (.lst ws))) : wpAny (model X.prog X.w) X.A (call (.builtin "sorted") [.ref a]) (EP X pins σ Q) X.xe s := by
  unfold sortD at e
  split at e
  · rename_i ds ed
    split at e
    · rename_i c
      cases e
      simp only [Bool.and_eq_true, decide_eq_true_eq] at c
      obtain ⟨⟨c1, c2⟩, c3⟩ := c
      have hl : xs.length = ds.length := (mapO_len ed).symm
      obtain ⟨its, rv, hp, hz⟩ := I.tuple hs
      obtain ⟨as, ra⟩ := Dp.readsAll I ds vs its (dps_of r 8 xs vs ds ed hr) rv
      have em := map_zip_snd hl
      refine sorted_tup (enc := fun b : D × PyData => b.2) (bs := xs.zip ds) hp (zip_each (R := fun _ _ _ => True) hl hr rv) (zip_reads hl ra) (by rw [em]; exact alikes_ok c1) (by rw [em]; exact sortable_ok c2)
        (by rw [List.length_zip]; omega) (fun b hb => ?_) fun out hlo ho => ?_
      · obtain ⟨x, _, ex⟩ := mapO_mem ed (show b.2 ∈ ds by rw [← em]; exact List.mem_map_of_mem hb)
        have := (plain_of 8 x b.2 ex).2.1
        show X.A.units + 2 + b.2.depth < cLine
        omega
      · obtain ⟨ws, h1, h2⟩ := each_out ho
        have hn : H (s.heap.objs.size + 1) = none := I.hok.fresh (Nat.le_succ _)
        obtain ⟨ep, hat⟩ := PyProof.Rows.sortedAll_at s.heap its out.toArray
        refine ⟨.ref (s.heap.objs.size + 1), upd H (s.heap.objs.size + 1) (.lst ws), I.laid (t' := s.toks) (fun b o q => PyProof.Rows.sortedAll_old q) (Nat.le_succ _) ?_, rfl, q _ ws hn h2⟩
        refine ⟨?_, out, ep, h1, hat⟩
        rw [h1.length, hlo, List.length_zip]
        omega
    · cases e
  · cases e
end
end Iv

set_option maxRecDepth 10000
/-! IvB: dict, sorted, repr, displays of dicts and sets. -/
namespace Iv
open PySem PySem.Spec PyProof.Rows L2
section
variable {X : Cx} {ca : Nat → Addr} {E : XK} {F : Fns}
/-! ### sorted -/
theorem rising_pw : ∀ {r : List Str} {p : Str}, risingS p r = true → (p :: r).Pairwise fun a b => leStr a b = true
  | [], p, _ => by simp
  | x :: r, p, h => by
    have h : (!ltCps x.cps.toList p.cps.toList && risingS x r) = true := h
    obtain ⟨h1, h2⟩ := Bool.and_eq_true_iff.mp h
    have i := rising_pw h2
    have e : leStr p x = true := by
      rw [ltCps_eq] at h1
      simp only [Bool.not_eq_true', decide_eq_false_iff_not] at h1
      exact decide_eq_true (List.not_lt.mp h1)
    refine List.pairwise_cons.mpr ⟨fun y hy => ?_, i⟩
    rcases List.mem_cons.mp hy with rfl | hy
    · exact e
    · exact leStr_trans _ _ _ e ((List.pairwise_cons.mp i).1 y hy)
theorem sorted_pw {l : List Str} (h : sortedS l = true) : l.Pairwise fun a b => leStr a b = true := by
  cases l with
  | nil => exact List.Pairwise.nil
  | cons x r => exact rising_pw h
theorem reps_strs {K : PySem.W.Frag} {μ : List Addr} {H : Hp} : ∀ (l : List Str), Reps K μ H (l.map D.str) (l.map V.str)
  | [] => rfl
  | x :: r => ⟨.str x, _, rfl, rfl, reps_strs r⟩
theorem b_sorted (hu : X.A.units + 100 < cLine) (hc : X.calm = true) : CallR X (.builtin "sorted") (rN (gX X ca) E (bfD .sorted)) := by
  intro pins s σ H xs us Q I r h
  obtain ⟨μ, S, ds, rl, hr, p⟩ := h
  match ds, hr, p with
  | [d], hr, p =>
    obtain ⟨v, rfl, h1⟩ := args1 hr
    obtain ⟨u, rfl, rv⟩ := vals1 r
    have p : Post _ E (sortO d S) μ H _ := p
    unfold sortO at p
    cases hl : listOf S d with
    | some zs =>
      rw [hl] at p
      have p : Post _ E (match sortD S zs with | some ys => newC (.lst ys) S | none => .bad) μ H _ := p
      cases hs : sortD S zs with
      | none => rw [hs] at p; exact p.elim
      | some ys =>
        rw [hs] at p
        obtain ⟨a, vs, rfl, g1, g2⟩ := list_list I rl h1 hl
        cases rv
        exact sort_list hu I rl g1 g2 hs fun q ws hn hw => Post.lst p rl hw hn
    | none =>
      rw [hl] at p
      cases d with
      | loc n =>
        have p : Post _ E (match S[n]? with
          | some (.dct _ kvs) => match strKeys (kvs.map (·.1)) with
            | some ks => if ks.length < 64 then newC (.lst ((sortS ks).map .str)) S else .bad
            | none => .bad
          | _ => .bad) μ H _ := p
        split at p
        · rename_i lk kvs hs
          cases hk : strKeys (kvs.map (·.1)) with
          | none => rw [hk] at p; exact p.elim
          | some ks =>
            rw [hk] at p
            have p : Post _ E (if ks.length < 64 then newC (.lst ((sortS ks).map D.str)) S else .bad) μ H _ := p
            by_cases c : ks.length < 64
            · rw [if_pos c] at p
              obtain ⟨a, ha, rfl⟩ := h1
              obtain ⟨kv, g1, g2, g3⟩ := rl.at_ n a _ ha hs
              have rd : Rd H a (.dK kv) := by
                cases lk with
                | true => exact .inr g1
                | false => exact .inl g1
              refine call_of (call_sortedD hc) I r ⟨a, kv, ks, rfl, rd, g2.symm.trans (strKeys_eq hk), c, fun ys q hp hso hn => ?_⟩
              have e : ys = sortS ks := sorted_uniq (hp.trans (sortS_perm ks).symm) (sorted_pw hso) (sortS_sorted ks)
              rw [e]
              exact Post.lst p rl (reps_strs _) hn
            · rw [if_neg c] at p
              exact p.elim
        · exact p.elim
      | tup zs =>
        have p : Post _ E (match sortD S zs with | some ys => newC (.lst ys) S | none => .bad) μ H _ := p
        cases hs : sortD S zs with
        | none => rw [hs] at p; exact p.elim
        | some ys =>
          rw [hs] at p
          obtain ⟨a, vs, rfl, g1, g2⟩ := h1
          cases rv
          exact sort_tuple hu I rl g1.sq g2 hs fun q ws hn hw => Post.lst p rl hw hn
      | _ => exact p.elim
  | [], _, p => exact p.elim
  | _ :: _ :: _, _, p => exact p.elim
/-! ### dict of pairs -/
theorem pairsOf_cons {x : D} {xs : List D} {ps : List (Key × D)} (h : pairsOf (x :: xs) = some ps) : ∃ k d q ps', x = .tup [k, d] ∧ D.key? k = some q ∧ pairsOf xs = some ps' ∧ ps = (q, d) :: ps' := by
  unfold pairsOf at h
  split at h
  · rename_i e
    cases e
  · rename_i k v r e
    cases e
    split at h
    · cases h
      exact ⟨k, v, _, _, rfl, by assumption, by assumption, rfl⟩
    · cases h
  · cases h
theorem pairs_rd {pins : List (Addr × Obj)} {s : Shared} {σ : L2.St} {H : Hp} {μ : List Addr} (I : Inv X pins σ H s) : ∀ {xs : List D} {vs : List V} {us : List Value} {ps : List (Key × D)}, Reps X.K μ H xs vs → Vals vs us → pairsOf xs = some ps →
    ∃ (Tl : List Addr) (pv : List (Value × Value)) (kv : List (L2.Key × V)) (kw : List (L2.Key × Value)), us = Tl.map Value.ref ∧ pv.length = Tl.length ∧ kw.length = Tl.length ∧ KV kv kw ∧ ps.map (·.1) = kv.map (·.1) ∧ Reps X.K μ H (ps.map (·.2)) (kv.map (·.2)) ∧
      ∀ (j : Nat) (T : Addr), Tl[j]? = some T → ∃ k a b, pv[j]? = some (a, b) ∧ kw[j]? = some (k, b) ∧ keyIs k a = true ∧ s.heap.IsTuple T #[a, b]
  | [], vs, us, ps, hr, hv, e => by
    obtain rfl : vs = [] := hr
    cases hv
    cases e
    exact ⟨[], [], [], [], rfl, rfl, rfl, .nil, rfl, rfl, fun j T h => by simp at h⟩
  | x :: xs, vs, us, ps, hr, hv, e => by
    obtain ⟨v, r, rfl, h1, h2⟩ := hr
    cases hv with
    | cons rv rr =>
      obtain ⟨k, d, q, ps', rfl, hk, hp, rfl⟩ := pairsOf_cons e
      obtain ⟨T, tv, rfl, t1, t2⟩ := h1
      obtain ⟨v1, v2, rfl, w1, w2⟩ := args2 t2
      cases rv
      obtain ⟨its, iv, ip, _⟩ := I.tuple t1.sq
      obtain ⟨u1, u2, rfl, r1, r2⟩ := vals2 iv
      obtain ⟨Tl, pv, kv, kw, rfl, l1, l2, q1, q2, q3, q4⟩ := pairs_rd I h2 rr hp
      obtain rfl : v1 = kV q := key_rep hk w1
      refine ⟨T :: Tl, (u1, u2) :: pv, (q, v2) :: kv, (q, u2) :: kw, rfl, congrArg (· + 1) l1, congrArg (· + 1) l2, .cons ⟨rfl, r2⟩ q1, by simp [q2], ⟨v2, _, rfl, w2, q3⟩, fun j T' hj => ?_⟩
      cases j with
      | zero =>
        cases hj
        exact ⟨q, u1, u2, rfl, rfl, kV_is (P := X.prog) (w := X.w) r1, ip⟩
      | succ j => exact q4 j T' (by simpa using hj)
theorem putA_mem {κ β : Type} [DecidableEq κ] {k x : κ} {v : β} : ∀ {l : List (κ × β)}, x ∈ (putA k v l).map (·.1) → x = k ∨ x ∈ l.map (·.1)
  | [], h => by
    rcases List.mem_cons.mp h with h | h
    · exact .inl h
    · cases h
  | (a, b) :: r, h => by
    unfold putA at h
    split at h
    · exact .inr h
    · rcases List.mem_cons.mp h with h | h
      · exact .inr (h ▸ List.mem_cons_self)
      · rcases putA_mem h with h | h
        · exact .inl h
        · exact .inr (List.mem_cons_of_mem _ h)
theorem putA_nd {κ β : Type} [DecidableEq κ] {k : κ} {v : β} : ∀ {l : List (κ × β)}, (l.map (·.1)).Nodup → ((putA k v l).map (·.1)).Nodup
  | [], _ => by simp [putA]
  | (a, b) :: r, h => by
    obtain ⟨h1, h2⟩ := List.nodup_cons.mp h
    unfold putA
    split
    · exact h
    · rename_i e
      refine List.nodup_cons.mpr ⟨fun z => ?_, putA_nd h2⟩
      rcases putA_mem z with z | z
      · exact e z
      · exact h1 z
theorem from_rep {K : PySem.W.Frag} {μ : List Addr} {H : Hp} : ∀ {ps : List (Key × D)} {kv : List (L2.Key × V)} {acc : List (Key × D)} {ak : List (L2.Key × V)}, ps.map (·.1) = kv.map (·.1) → Reps K μ H (ps.map (·.2)) (kv.map (·.2)) → acc.map (·.1) = ak.map (·.1) → Reps K μ H (acc.map (·.2)) (ak.map (·.2)) → (ak.map (·.1)).Nodup →
    (fromPairs acc ps).map (·.1) = (mergeK ak kv).map (·.1) ∧ Reps K μ H ((fromPairs acc ps).map (·.2)) ((mergeK ak kv).map (·.2))
  | [], [], _, _, _, _, e, h, _ => ⟨e, h⟩
  | [], _ :: _, _, _, e, _, _, _, _ => by cases e
  | _ :: _, [], _, _, e, _, _, _, _ => by cases e
  | (k, d) :: ps, (k', v) :: kv, acc, ak, e, h, ea, ha, nd => by
    obtain ⟨e1, e2⟩ := List.cons.inj e
    have e1 : k = k' := e1
    subst e1
    obtain ⟨v2, r, ev, h1, h2⟩ := h
    obtain ⟨rfl, rfl⟩ := List.cons.inj ev
    obtain ⟨p1, p2⟩ := put_rep (k := k) h1 ea ha nd
    refine from_rep (acc := putA k d acc) (ak := putK ak k v) e2 h2 p1 p2 ?_
    rw [← ea] at nd
    exact p1 ▸ putA_nd nd
theorem dict_fin {pins : List (Addr × Obj)} {s : Shared} {σ : L2.St} {H : Hp} {h' : Heap} {tk : Nat} {μ : List Addr} {S : Store} {ps : List (Key × D)} {kv : List (L2.Key × V)} {kw : List (L2.Key × Value)} {Q : VK} (I : Inv X pins σ H s) (rl : Rel (gX X ca) μ S H) (q1 : KV kv kw) (q2 : ps.map (·.1) = kv.map (·.1)) (q3 : Reps X.K μ H (ps.map (·.2)) (kv.map (·.2)))
    (hz : kw.length ≤ sizeLine) (hd : h'.DictOf (mixKind X.prog X.w) s.heap.objs.size (merged [] kw)) (k : ∀ b o, s.heap.get? b = some o → h'.get? b = some o)
    (p : Post (gX X ca) E (newC (.dct false (fromPairs [] ps)) S) μ H fun d _ μ' H' => ∀ v, Rep X.K μ' H' d v → Q v H') : EP X pins σ Q (.ref s.heap.objs.size) { s with heap := h', toks := tk } := by
  obtain ⟨z1, z2⟩ := from_rep (acc := []) (ak := []) q2 q3 rfl (show Reps X.K μ H [] [] from rfl) List.nodup_nil
  have hn : H s.heap.objs.size = none := I.hok.fresh (Nat.le_refl _)
  have hm : (s.heap.objs.size == sysModules) = false := beq_eq_false_iff_ne.mpr (Nat.ne_of_gt I.big)
  have hlen : (mergeK [] kv).length ≤ sizeLine := by
    have := length_mergeK kv []
    have := Paired.length q1
    simp at *
    omega
  have key := Post.new p rl hn (p := s.heap.objs.size) (o := .dK (mergeK [] kv)) ⟨_, upd_same, z1, Reps.mono (Ext.new hn) z2⟩
  exact ⟨.ref s.heap.objs.size, _, I.laid (t' := tk) k (Nat.le_refl _) (show ObjOk X.prog X.w _ _ _ (.dK (mergeK [] kv)) from ⟨hlen, hm, merged [] kw, KV.merge q1 .nil, hd⟩), rfl, key _ (Rep.newLoc rl.len.symm)⟩
theorem items_ok {h : Heap} {Tl : List Addr} {pv : List (Value × Value)} {kw : List (L2.Key × Value)} (l1 : pv.length = Tl.length) (q4 : ∀ (j : Nat) (T : Addr), Tl[j]? = some T → ∃ k a b, pv[j]? = some (a, b) ∧ kw[j]? = some (k, b) ∧ keyIs k a = true ∧ h.IsTuple T #[a, b]) :
    PySem.PairItems h (Tl.map Value.ref).toArray (fun j => (Tl[j]?).getD 0) pv := by
  refine ⟨by simp [l1], fun j k v e => ?_⟩
  have hj : j < Tl.length := by rw [← l1]; exact (List.getElem?_eq_some_iff.mp e).1
  have ej : Tl[j]? = some Tl[j] := List.getElem?_eq_getElem hj
  obtain ⟨q, a, b, e1, _, _, ht⟩ := q4 j _ ej
  rw [e1] at e
  cases e
  refine ⟨by simp [ej], ?_⟩
  show PySem.PairAt h ((Tl[j]?).getD 0) k v
  rw [ej]
  exact .inl ht
theorem have_ok {P : Program} {w : World} {h : Heap} {Tl : List Addr} {pv : List (Value × Value)} {kw : List (L2.Key × Value)} (l1 : pv.length = Tl.length) (l2 : kw.length = Tl.length) (q4 : ∀ (j : Nat) (T : Addr), Tl[j]? = some T → ∃ k a b, pv[j]? = some (a, b) ∧ kw[j]? = some (k, b) ∧ keyIs k a = true ∧ h.IsTuple T #[a, b]) :
    PySem.PairsHave (mixKind P w) pv.length (PySem.PairRel pv) kw := by
  refine ⟨by rw [l1, l2], fun i key v e => ?_⟩
  have e : pv[i]? = some (key, v) := e
  have hj : i < Tl.length := by rw [← l1]; exact (List.getElem?_eq_some_iff.mp e).1
  obtain ⟨q, a, b, e1, e2, e3, _⟩ := q4 i _ (List.getElem?_eq_getElem hj)
  rw [e1] at e
  cases e
  exact ⟨q, e2, e3⟩
theorem b_dict (hc : X.calm = true) : CallR X (.type "dict") (rN (gX X ca) E (bfD .dict)) := by
  intro pins s σ H xs us Q I r h
  obtain ⟨μ, S, ds, rl, hr, p⟩ := h
  match ds, hr, p with
  | [d], hr, p =>
    obtain ⟨v, rfl, h1⟩ := args1 hr
    obtain ⟨u, rfl, rv⟩ := vals1 r
    have p : Post _ E (match (seqOf S d).bind pairsOf with
      | some ps => newC (.dct false (fromPairs [] ps)) S
      | none => .bad) μ H _ := p
    cases hs : seqOf S d with
    | none => rw [hs] at p; exact p.elim
    | some zs =>
      rw [hs] at p
      have p : Post _ E (match pairsOf zs with
        | some ps => newC (.dct false (fromPairs [] ps)) S
        | none => .bad) μ H _ := p
      cases hp : pairsOf zs with
      | none => rw [hp] at p; exact p.elim
      | some ps =>
        rw [hp] at p
        have pfin := p
        have lists : ∀ a vs, v = .ref a → SqL X.K H a vs → Reps X.K μ H zs vs → wpAny (model X.prog X.w) X.A (call (.type "dict") [u]) (EP X pins σ Q) X.xe s := fun a vs ev g1 g2 => by
          subst ev
          cases rv
          obtain ⟨its, iv, pl, hz⟩ := I.list g1
          obtain ⟨Tl, pv, kv, kw, rfl, l1, l2, q1, q2, q3, q4⟩ := pairs_rd I g2 iv hp
          obtain ⟨o, n, ho, hcl, hd, hdat⟩ := pl
          refine PySem.call_dict_pairs (knd := mixKind X.prog X.w) (PySem.PairArg.list a _ _ pv) (I.ok.hd hc) ⟨⟨o, n, ho, hcl, hd, hdat⟩, items_ok l1 q4⟩ (have_ok l1 l2 q4) (by have := iv.length; rw [List.length_map] at this; omega) fun h' tk hd' k => ?_
          exact dict_fin I rl q1 q2 q3 (by have := iv.length; rw [List.length_map] at this; omega) hd' (fun b o e => k b o (by simp) e) pfin
        cases d with
        | tup ys =>
          obtain ⟨a, vs, rfl, g1, g2⟩ := h1
          cases hs
          cases rv
          obtain ⟨its, iv, pl, hz⟩ := I.tuple g1.sq
          obtain ⟨Tl, pv, kv, kw, rfl, l1, l2, q1, q2, q3, q4⟩ := pairs_rd I g2 iv hp
          obtain ⟨oo, g3, g4⟩ := g1
          obtain ⟨e5, _⟩ := I.hok a _ g3
          obtain ⟨o, ho, hcl, n, hdat⟩ := pl
          rw [e5] at ho
          cases ho
          refine PySem.call_dict_pairs (knd := mixKind X.prog X.w) (PySem.PairArg.tuple a _ _ pv) (I.ok.hd hc) ⟨⟨oo, n, e5, hcl, g4, hdat⟩, items_ok l1 q4⟩ (have_ok l1 l2 q4) (by have := iv.length; rw [List.length_map] at this; omega) fun h' tk hd' k => ?_
          exact dict_fin I rl q1 q2 q3 (by have := iv.length; rw [List.length_map] at this; omega) hd' (fun b o e => k b o (by simp) e) pfin
        | rol ys =>
          obtain ⟨a, vs, rfl, g1, g2⟩ := h1
          cases hs
          exact lists a vs rfl g1.sq g2
        | loc n =>
          obtain ⟨a, vs, rfl, g1, g2⟩ := list_list I rl h1 (show listOf S (.loc n) = some zs from hs)
          exact lists a vs rfl g1 g2
        | _ => cases hs
  | [], _, p => exact p.elim
  | _ :: _ :: _, _, p => exact p.elim
/-! ### repr -/
theorem b_repr (hu : X.A.units + 100 < cLine) (hg : X.A.guards = some []) : CallR X (.builtin "repr") (rN (gX X ca) E (bfD .repr)) := by
  intro pins s σ H xs us Q I r h
  obtain ⟨μ, S, ds, rl, hr, p⟩ := h
  match ds, hr, p with
  | [d], hr, p =>
    obtain ⟨v, rfl, h1⟩ := args1 hr
    obtain ⟨u, rfl, rv⟩ := vals1 r
    have p : Post _ E (ok? ((reprD S d).map D.str) S) μ H _ := p
    obtain ⟨z, ez, q⟩ := p.ok? rl
    obtain ⟨x, ex, rfl⟩ := Option.map_eq_some_iff.mp ez
    unfold reprD at ex
    split at ex
    · rename_i y hy
      split at ex
      · rename_i c
        cases ex
        unfold reprOk at c
        simp only [Bool.and_eq_true, decide_eq_true_eq, Bool.not_eq_true'] at c
        obtain ⟨⟨c1, c2⟩, c3⟩ := c
        have dp := dp_of rl 8 d v y hy h1
        have fin : ∀ tk, EP X pins σ Q (.str y.shown tk) { s with toks := s.toks + 1 } := fun tk => ⟨.str y.shown, H, I.tok _, ⟨tk, rfl⟩, q _ rfl⟩
        obtain ⟨as, rd⟩ := Dp.reads I y v u dp rv
        cases dp with
        | non =>
          cases rv
          exact PySem.P.repr_of_none (fin _)
        | bl b =>
          cases rv
          exact PySem.P.repr_of_bool (fin _)
        | int i =>
          obtain ⟨t, rfl⟩ := rv
          exact PySem.P.repr_of_int (of_decide_eq_true c1) (fin _)
        | str w =>
          obtain ⟨t, rfl⟩ := rv
          exact PySem.P.repr_of_str (fin _) c3
        | _ =>
          cases rv
          refine repr_of_reads' rd c1 (fun z => by rw [c2] at z; cases z) hg (by have := (plain_of 8 d _ hy).2.1; omega) (fun _ _ e => e) (fun h' u tk hk => ?_) c3
          exact ⟨.str _, H, I.kept (t' := tk) hk, ⟨u, rfl⟩, q _ rfl⟩
      · cases ex
    · cases ex
  | [], _, p => exact p.elim
  | _ :: _ :: _, _, p => exact p.elim
/-! ### {}, set() -/
theorem e_set0 {x : Str} {p pos : Pos} (hg : Gl X x) (hm : X.mg x = none) (hv : bootBuiltins x = some (.type "set")) (hn : x ≠ "__name__") (hd : (x == ("__debug__" : Str)) = false) : PE X (.Call (.Name x p) [] [] pos) (tE (gX X ca) E F .set0) := by
  refine PE.imp (pe_callTy0 cr_set0K hg hm hv hn hd) fun σ H Q q => ?_
  obtain ⟨μ, ρ, S, r, sl, p⟩ := q
  exact ⟨rfl, fun t ht => (Post.new (show Post _ E (newC (.set []) S) μ H _ from p) r ht ⟨upd_same, List.nodup_nil⟩) _ (Rep.newLoc r.len.symm)⟩
theorem e_dct0 {pos : Pos} : PE X (.Dict [] [] pos) (tE (gX X ca) E F (.dsp .nil .nil)) := by
  refine PE.imp pe_dnewK fun σ H Q q => ?_
  obtain ⟨μ, ρ, S, r, sl, p⟩ := q
  intro t ht
  have p : Post _ E ((evEs F .nil ρ S).bind fun ks S1 => (evEs F .nil ρ S1).bind fun vs S2 => match keys? ks with
    | some qs => if qs.length = vs.length then newC (.dct false (fromPairs [] (qs.zip vs))) S2 else .bad
    | none => .bad) μ H _ := p
  exact (Post.new (show Post _ E (newC (.dct false []) S) μ H _ from p) r ht ⟨[], upd_same, rfl, rfl⟩) _ (Rep.newLoc r.len.symm)
end
end Iv

set_option maxRecDepth 10000
/-! IvC: enumerate, zip of lists. -/
namespace Iv
open PySem PySem.Spec PyProof.Rows L2
abbrev enH (h : Heap) (o : Obj) : Heap := (h.push o).push { cls := .type "enumerate", data := .fields #[.none, .bool false, .ref h.objs.size, rawInt 0, .none, .none] }
set_option maxHeartbeats 1000000 in
theorem meets_enum1 {v : Value} {o : Obj} {H : Heap → Prop} (B : Begins v o H) :
    Meets (Builtin.«enumerate.__new__» ⟨[.type "enumerate", v], []⟩) (fun _ R s => H s.heap ∧ R (.ok (.ret (.ref (s.heap.push o).objs.size))) { s with heap := enH s.heap o }) :=
  .of_wp fun prog w A R s h => by
    obtain ⟨hp, g, d, tk, os⟩ := s
    obtain ⟨h1, h⟩ := h
    have hsub := sub_enumerate
    have q1 : ∀ {Av : Around} {Ev : Value → Shared → Prop} {Qv : Value → Shared → Prop}, Qv (.ref hp.objs.size) ⟨(hp.push o), g, d, tk, os⟩ →
        wpAny (model prog w) Av (pyIter v) Qv Ev ⟨hp, g, d, tk, os⟩ := fun q => B.iter prog w _ _ ⟨hp, g, d, tk, os⟩ _ h1 q
    wp_walk
    refine wpAny_stack_any fun st => wpAny_pure ?_
    split
    · rename_i c _ _ _ _ _
      cases (c == Value.type "enumerate")
      · wp_walk using q1
        exact ⟨_, rfl, h⟩
      · wp_walk using q1
        exact ⟨_, rfl, h⟩
    · wp_walk using q1
      exact ⟨_, rfl, h⟩
theorem call_enum1 {prog : Program} {w : World} {A : Around} {E : Value → Shared → Prop} {s : Shared} {v : Value} {o : Obj} {H : Heap → Prop} {Q : Value → Shared → Prop} (B : Begins v o H) (h1 : H s.heap)
    (h : ∀ h', IsEnum h' (s.heap.objs.size + 1) s.heap.objs.size 0 .none → h'.get? s.heap.objs.size = some o →
      (∀ b ob, s.heap.get? b = some ob → h'.get? b = some ob) → Q (.ref (s.heap.objs.size + 1)) { s with heap := h' }) :
    wpAny (model prog w) A (call (.type "enumerate") [v]) Q E s := by
  refine callType_new F.called_enumerate (by decide) (F.typeCall_enumerate_1 _) (F.newCall_enumerate_1 _)
    (fun obj => F.args_object_init_2 obj _) F.entry_enumerate_new (meets_enum1 B) ⟨h1, ?_⟩
  have z : (s.heap.push o).objs.size = s.heap.objs.size + 1 := by rw [Heap.size_push]
  have he : IsEnum (enH s.heap o) (s.heap.objs.size + 1) s.heap.objs.size 0 .none := by
    rw [← z]
    exact Heap.get?_push_size _ rfl
  show _ ∧ _
  rw [z]
  exact ⟨⟨_, he, rfl⟩, h _ he (Heap.get?_push_of_some _ (Heap.get?_push_size _ B.free)) fun b ob q => Heap.get?_push_of_some _ (Heap.get?_push_of_some _ q)⟩
/-- a tuple's items, each in a new pair -/
def IteT (K : PySem.W.Frag) (a : Addr) : It :=
  ⟨fun i H => ∃ (xs : List V) (x : V), SqT K H a xs ∧ xs[i]? = some x, fun i H v H' => ∃ T x, v = .ref T ∧ H T = none ∧ H' = upd H T (.tup [.int (i : Nat), x]) ∧ ∀ xs, SqT K H a xs → xs[i]? = some x, fun i H => ∃ xs : List V, SqT K H a xs ∧ xs.length ≤ i⟩
theorem turn_enumT {P : Program} {w : World} {K : PySem.W.Frag} {elts : List Expr} {kk : Nat} {tpos : Pos} (a e it : Addr) :
    Turn P w K (.Tuple elts kk tpos) (IteT K a) [e, it] e (fun i h => (∃ old, IsEnum h e it ((i : Nat) : Int) old) ∧ h.IsTupleIter it a i ∧ e ≠ it) where
  mem := by simp
  obj := fun i h st b hb => by
    obtain ⟨⟨old, he⟩, ⟨o, ho, hc, hd⟩, _⟩ := st
    rcases (show b = e ∨ b = it by simpa using hb) with rfl | rfl
    · exact ⟨_, he, fun v q => nomatch q⟩
    · exact ⟨o, ho, fun v q => by rw [hd] at q; cases q⟩
  keep := fun i h h' st k => by
    obtain ⟨⟨old, he⟩, hi, hne⟩ := st
    exact ⟨⟨old, k e (by simp) _ he⟩, hi.at fun o q => k it (by simp) o q, hne⟩
  item := by
    intro X hP hw hK hc i pins s σ H E I hf st hg
    subst hP hw hK
    obtain ⟨⟨old, he⟩, hit, hne⟩ := st
    obtain ⟨xs, x, hq, hx⟩ := hg
    obtain ⟨its, rv, p, hz⟩ := I.tuple hq
    obtain ⟨u, hu, ru⟩ := rv.get hx
    have hel : e < s.heap.objs.size := Heap.lt_size he
    have hil : it < s.heap.objs.size := by
      obtain ⟨_, q, _⟩ := hit
      exact Heap.lt_size q
    have hna : a ≠ it := fun z => by
      obtain ⟨o1, g1, g2, _⟩ := hit
      obtain ⟨o2, g3, g4, _⟩ := p
      rw [z, g1] at g3
      cases g3
      rw [g2] at g4
      injection g4 with q
      exact absurd q (by decide)
    have hea : e ≠ a := fun z => by
      obtain ⟨o2, g3, g4, _⟩ := p
      rw [← z] at g3
      have g5 := he.symm.trans g3
      cases g5
      injection g4 with q
      exact absurd q (by decide)
    have D := Draws.tuple (prog := X.prog) (w := X.w) (A := X.A.in1) (I.ok.hd hc) it a hna its.toArray
    refine wpAny_pyNext_enum_itemD D he ⟨hit, p⟩ (i := i) (by have := (List.getElem?_eq_some_iff.mp hu).1; simpa using this) hne (by simp [hne, hea]) fun y h' tk hy ho st' hT hsz hk => ?_
    have ey : y = u := by
      have hy : its.toArray[i]? = some y := hy
      have : its[i]? = some y := by simpa using hy
      rw [hu] at this
      exact (Option.some.inj this).symm
    subst ey
    refine ⟨_, rfl, wpAny_letOwnedTupleGo_enum (s := { s with heap := h', toks := tk + 1 }) ho fun h'' he' sb => ?_⟩
    have hT2 : h''.get? s.heap.objs.size = some { cls := .type "tuple", data := .seq #[.int i tk, y] } := (sb.2 _ (Nat.ne_of_gt hel)).trans hT
    have new : ObjOk X.prog X.w (upd H s.heap.objs.size (.tup [.int (i : Nat), x])) h'' s.heap.objs.size (.tup [.int (i : Nat), x]) := by
      refine ⟨by show 2 ≤ sizeLine; decide, [.int i tk, y], .cons ⟨_, rfl⟩ (.cons ru .nil), ?_⟩
      exact ⟨_, hT2, rfl, _, rfl⟩
    have I1 := I.turnedNew (t' := tk + 1) (ch := [e, it]) (fun b ob hb q => (sb.2 b (fun z => hb (by simp [z]))).trans (hk b ob (fun z => hb (by simp [z])) (fun z => hb (by simp [z])) q)) hf (Nat.le_refl _) new
    refine ⟨.ref s.heap.objs.size, _, I1, rfl, ⟨_, x, rfl, I.hok.fresh (Nat.le_refl _), rfl, fun ys hy => by rw [I.tuple_inj hy hq]; exact hx⟩, ⟨⟨y, he'⟩, st'.1.at fun o q => (sb.2 it (Ne.symm hne)).trans q, hne⟩, fun b hb => ?_⟩
    have hb' : b < s.heap.objs.size := by
      rcases (show b = e ∨ b = it by simpa using hb) with rfl | rfl
      · exact hel
      · exact hil
    rw [upd_ne (Nat.ne_of_lt hb')]
    exact (hf b hb).1
  done := by
    intro X hP hw hK hc i pins s σ H E I hf st hg
    subst hP hw hK
    obtain ⟨⟨old, he⟩, hit, hne⟩ := st
    obtain ⟨xs, hq, hx⟩ := hg
    obtain ⟨its, rv, p, hz⟩ := I.tuple hq
    obtain ⟨f0, f1, f2, f3, f4, f5⟩ := hf it (by simp)
    have hl := rv.length
    have hna : a ≠ it := fun z => by
      obtain ⟨o1, g1, g2, _⟩ := hit
      obtain ⟨o2, g3, g4, _⟩ := p
      rw [z, g1] at g3
      cases g3
      rw [g2] at g4
      injection g4 with q
      exact absurd q (by decide)
    have D : Draws X.prog X.w X.A.in1 it [it, a] i (fun _ _ => True) (fun j h => j = i ∧ h.IsTupleIter it a i ∧ h.IsTuple a its.toArray) :=
      { live := fun _ _ q => let ⟨o, ho, _⟩ := q.2.1; ⟨o, ho⟩
        frame := fun _ _ _ q k => ⟨q.1, q.2.1.at fun o e => k it (by simp) o e, q.2.2.at fun o e => k a (by simp) o e⟩
        item := fun j _ _ _ hj q _ => absurd q.1 (Nat.ne_of_lt hj)
        done := fun _ _ _ q hE => wpAny_nextOf_tuple_end (I.ok.hd hc) q.2.1 q.2.2 (by simp; omega) hE }
    refine wpAny_pyNext_enum_endD D he ⟨rfl, hit, p⟩ fun h' eb => ?_
    exact ⟨rfl, I.turned (t' := s.toks) (fun b o hb q => eb b o hb q) f0 f1 f3 f4 f5⟩
  self := fun A i s Q E st h => by
    obtain ⟨⟨_, he⟩, _⟩ := st
    exact wpAny_pyIter_enum he h
section
variable {X : Cx} {ca : Nat → Addr} {E : XK} {F : Fns} {ts : ITs}
theorem it_enum {μ1 : List Addr} {H1 : Hp} {S1 : Store} {d : D} {a : Addr} {xs : List D} (r1 : Rel (gX X ca) μ1 S1 H1) (hd : Rep X.K μ1 H1 d (.ref a)) (hs : seqOf S1 d = some xs) (nt : ∀ ys, d ≠ .tup ys) : ItOk (gX X ca) (.tup ts) (Ite X.K a) (enumL 0 xs) (srcOf d xs) μ1 H1 := by
  have key : ∀ μ' S' H', Ext X.K μ1 μ' H1 H' → Rel (gX X ca) μ' S' H' → (srcOf d xs).ok S' = true → ∃ vs, SqL X.K H' a vs ∧ Reps X.K μ' H' xs vs := fun μ' S' H' e r ok => by
    have z := src_at r1 hd hs e r ok
    obtain ⟨a', vs, ea, h1, h2⟩ := r.seqOf (hd.mono e) z
    cases ea
    cases d with
    | tup ys => exact absurd rfl (nt ys)
    | rol ys =>
      obtain ⟨b, vs, eb, h3, h4⟩ := hd.mono e
      cases eb
      cases hs
      exact ⟨vs, h3.sq, h4⟩
    | loc n =>
      have z : lstAt S' n = some xs := z
      unfold lstAt at z
      split at z
      · rename_i ys hy
        cases z
        obtain ⟨b, vs, _, eb, h3, h4⟩ := r.lstAt (hd.mono e) hy
        cases eb
        exact ⟨vs, .of h3, h4⟩
      · cases z
    | _ => cases hs
  refine ⟨fun i x μ' S' H' e r ok hi => ?_, fun μ' S' H' i e r ok hi => ?_⟩
  · rw [enumL_at] at hi
    obtain ⟨y, hy, rfl⟩ := Option.map_eq_some_iff.mp hi
    obtain ⟨vs, h1, h2⟩ := key μ' S' H' e r ok
    obtain ⟨v, e1, e2⟩ := h2.get hy
    refine ⟨⟨vs, v, h1, e1⟩, fun w H2 yy => ?_⟩
    obtain ⟨T, x, rfl, hT, rfl, hx⟩ := yy
    have : v = x := Option.some.inj (e1.symm.trans (hx vs h1))
    subst this
    obtain ⟨f1, f2, f3⟩ := pair_new (ts := ts) (d := .int (0 + (i : Int))) (x := .int (i : Nat)) r hT (by rw [Int.zero_add]; rfl) e2
    exact ⟨f1, f2, f3⟩
  · obtain ⟨vs, h1, h2⟩ := key μ' S' H' e r ok
    rw [enumL_len] at hi
    exact ⟨vs, h1, by rw [← h2.length]; exact hi⟩
theorem it_enumT {μ1 : List Addr} {H1 : Hp} {a : Addr} {xs : List D} {vs : List V} (h : TupAt H1 a vs) (hr : Reps X.K μ1 H1 xs vs) : ItOk (gX X ca) (.tup ts) (IteT X.K a) (enumL 0 xs) .free μ1 H1 := by
  refine ⟨fun i x μ' S' H' e r ok hi => ?_, fun μ' S' H' i e r ok hi => ?_⟩
  · rw [enumL_at] at hi
    obtain ⟨y, hy, rfl⟩ := Option.map_eq_some_iff.mp hi
    obtain ⟨v, e1, e2⟩ := (hr.mono e).get hy
    refine ⟨⟨vs, v, (e.tups a vs h).sq, e1⟩, fun w H2 yy => ?_⟩
    obtain ⟨T, x, rfl, hT, rfl, hx⟩ := yy
    have : v = x := Option.some.inj (e1.symm.trans (hx vs (e.tups a vs h).sq))
    subst this
    exact pair_new (ts := ts) (d := .int (0 + (i : Int))) (x := .int (i : Nat)) r hT (by rw [Int.zero_add]; rfl) e2
  · rw [enumL_len] at hi
    exact ⟨vs, (e.tups a vs h).sq, by rw [← hr.length]; exact hi⟩
/-- enumerate(e), e a list or a tuple -/
theorem i_enum {e : Expr} {ie : IE} {p pos tpos : Pos} {elts : List Expr} {kk : Nat} (hg : Gl X "enumerate") (hm : X.mg "enumerate" = none) (he : PE X e (tE (gX X ca) E F ie)) (hs : nst e = true) :
    PI X (.Tuple elts kk tpos) (.Call (.Name "enumerate" p) [e] [] pos) (tI (gX X ca) E F (.tup ts) (.enum ie)) := by
  refine ⟨fun pins s σ H R I q => ?_⟩
  obtain ⟨μ, ρ, S, r, sl, p0⟩ := q
  have p0 : Post _ E ((evE F ie ρ S).bind fun x S1 => match seqOf S1 x with | some xs => .ok (enumL 0 xs, srcOf x xs) S1 | none => .bad) μ H _ := p0
  have ha : PA X [e] (tEs (gX X ca) E F (.cons ie .nil)) := a_cons he a_nil hs
  have q1 : tEs (gX X ca) E F (.cons ie .nil) σ H fun vs H1 => ∃ x μ1 S1 d xs, vs = [x] ∧ Rel (gX X ca) μ1 S1 H1 ∧ Rep X.K μ1 H1 d x ∧ seqOf S1 d = some xs ∧ ∀ J, ItOk (gX X ca) (.tup ts) J (enumL 0 xs) (srcOf d xs) μ1 H1 → R J H1 := by
    refine ⟨μ, ρ, S, r, sl, ?_⟩
    show Post _ E ((evE F ie ρ S).bind fun d S1 => (Out.ok ([] : List Iv.D) S1).bind fun ds S2 => .ok (d :: ds) S2) μ H _
    cases ho : evE F ie ρ S with
    | ok d S1 =>
      rw [ho] at p0
      have p0 : Post _ E (match seqOf S1 d with | some xs => .ok (enumL 0 xs, srcOf d xs) S1 | none => .bad) μ H _ := p0
      intro μ1 H1 e1 r1 vs hv
      obtain ⟨v, rfl, hv1⟩ := args1 hv
      cases hs : seqOf S1 d with
      | none => rw [hs] at p0; exact p0.elim
      | some xs =>
        rw [hs] at p0
        exact ⟨v, μ1, S1, d, xs, rfl, r1, hv1, hs, p0 μ1 H1 e1 r1⟩
    | ex c fs S1 => rw [ho] at p0; exact p0
    | bad => rw [ho] at p0; exact p0
  refine Call_ (ld_blt I hg hm boot_enumerate (PyProof.Rows.callWith_type1 (thn (ha.run pos pins s σ H _ I q1) fun us s1 ⟨vs, H1, I1, rv, x, μ1, S1, d, xs, ev, r1, hx, hw, hR⟩ => ?_) (star_cons hs) rfl))
  subst ev
  obtain ⟨u, rfl, ru⟩ := vals1 rv
  have fr : ∀ b, b ∈ [s1.heap.objs.size + 1, s1.heap.objs.size] → FpOk X pins H1 b := fun b hb => by
    have hle : s1.heap.objs.size ≤ b := by
      rcases (show b = s1.heap.objs.size + 1 ∨ b = s1.heap.objs.size by simpa using hb) with z | z
      · rw [z]; exact Nat.le_add_right _ _
      · rw [z]; exact Nat.le_refl _
    exact I1.fpOk hle (I1.hok.fresh hle)
  have lists : (∀ ys, d ≠ .tup ys) → listOf S1 d = some xs → wpAny (model X.prog X.w) X.A (call (.type "enumerate") [u]) (fun v s2 => wpAny (model X.prog X.w) X.A (pyIter v) (PIE X pins σ (.Tuple elts kk tpos) R) X.xe s2) X.xe s1 := fun nt hl => by
    obtain ⟨a, vs, rfl, h1, h2⟩ := list_list I1 r1 hx hl
    cases ru
    obtain ⟨its, iv, pl, hz⟩ := I1.list h1
    refine call_enum1 (begins_list a its.toArray) pl.isList fun h' hen hit hk => wpAny_pyIter_enum hen ?_
    exact ⟨s1.heap.objs.size + 1, [s1.heap.objs.size + 1, s1.heap.objs.size], _, _, H1, rfl, I1.kept (t' := s1.toks) hk, turn_enum a _ _, ⟨⟨.none, hen⟩, ⟨_, hit, rfl, rfl⟩, Nat.succ_ne_self _⟩, fr, hR _ (it_enum r1 hx hw nt)⟩
  cases d with
  | tup ys =>
    obtain ⟨a, vs, rfl, h1, h2⟩ := hx
    cases hw
    cases ru
    obtain ⟨its, iv, pl, hz⟩ := I1.tuple h1.sq
    refine call_enum1 (begins_tuple a its.toArray) (show s1.heap.IsTuple a its.toArray from pl) fun h' hen hit hk => wpAny_pyIter_enum hen ?_
    exact ⟨s1.heap.objs.size + 1, [s1.heap.objs.size + 1, s1.heap.objs.size], _, _, H1, rfl, I1.kept (t' := s1.toks) hk, turn_enumT a _ _, ⟨⟨.none, hen⟩, ⟨_, hit, rfl, rfl⟩, Nat.succ_ne_self _⟩, fr, hR _ (it_enumT h1 h2)⟩
  | rol ys => exact lists (fun _ z => nomatch z) hw
  | loc n => exact lists (fun _ z => nomatch z) hw
  | _ => cases hw
end
end Iv

set_option maxRecDepth 10000
/-! IvD: list comprehensions with two fors. -/
namespace Iv
open PySem PySem.Spec PyProof.Rows L2
section
variable {X : Cx} {ca : Nat → Addr} {E : XK} {F : Fns}
/-- a for's turns, within a comprehension whose list stands at n: what is to follow is k -/
theorem inner_read {ie : IE} {t : IT} {c : IO} {ρ : Env} {src : Src} {items : List D} {n : Nat} {Dn : Addr} {k : Store → Out D} {μ1 : List Addr} {H1 : Hp} {S1 : Store} {σ : L2.St} {Q : VK} {J : It} {Nx : Hp → Prop}
    (ok : ItOk (gX X ca) t J items src μ1 H1) (hn0 : μ1[n]? = some Dn) (sl : Slots X.K μ1 H1 σ ρ) (r1 : Rel (gX X ca) μ1 S1 H1)
    (p1 : Post (gX X ca) E ((loopC src (turnC F ie t c ρ) n items S1).bind fun _ S5 => k S5) μ1 H1 fun d _ μ' H' => ∀ v, Rep X.K μ' H' d v → Q v H')
    (hN : ∀ μ' S' H', Ext X.K μ1 μ' H1 H' → Rel (gX X ca) μ' S' H' → Post (gX X ca) E (k S') μ' H' (fun d _ μ' H' => ∀ v, Rep X.K μ' H' d v → Q v H') → Nx H') :
    ∃ W1 : Nat → Nat → Hp → Prop, (∃ m, W1 0 m H1) ∧ ∀ j kk H, W1 j kk H →
      (J.stop j H ∧ Nx H) ∨ (J.go j H ∧ ∃ Nx1 : Hp → Prop, (∀ H', Nx1 H' → ∃ k', k' < kk ∧ W1 (j + 1) k' H') ∧ ∀ x H', J.yld j H x H' → gB (gX X ca) t x (wipe σ (slotsT t)) H' fun σ3 H5 => wipe σ3 (slotsT t) = wipe σ (slotsT t) ∧ tC (gX X ca) E0 F c σ3 H5 fun b H6 =>
        if b = true then tE (gX X ca) E0 F ie σ3 H6 fun y H7 => ∃ acc, H7 Dn = some (.lst acc) ∧ acc.length < sizeLine ∧ Nx1 (upd H7 Dn (.lst (acc ++ [y]))) else Nx1 H6) := by
  refine ⟨fun i m H => m = items.length - i ∧ ∃ μ' S', Ext X.K μ1 μ' H1 H ∧ Rel (gX X ca) μ' S' H ∧
    Post (gX X ca) E ((loopC src (turnC F ie t c ρ) n (items.drop i) S').bind fun _ S5 => k S5) μ' H fun d _ μ' H' => ∀ v, Rep X.K μ' H' d v → Q v H',
    ⟨items.length, by simp, μ1, S1, Ext.refl, r1, by rw [List.drop_zero]; exact p1⟩, ?_⟩
  rintro i m H2 ⟨rfl, μ2, S2, e2, r2, p2⟩
  cases hd : items.drop i with
  | nil =>
    rw [hd] at p2
    have hi : items.length ≤ i := List.drop_eq_nil_iff.mp hd
    have p2 : Post _ E ((if src.ok S2 = true then Out.ok () S2 else .bad).bind fun _ S5 => k S5) μ2 H2 _ := p2
    by_cases kk : src.ok S2 = true
    · rw [if_pos kk] at p2
      exact .inl ⟨ok.stop μ2 S2 H2 i e2 r2 kk hi, hN μ2 S2 H2 e2 r2 p2⟩
    · rw [if_neg kk] at p2
      exact p2.elim
  | cons x xs =>
    rw [hd] at p2
    have hi : i < items.length := by
      have : (items.drop i).length ≠ 0 := by rw [hd]; simp
      rw [List.length_drop] at this
      omega
    have hxi : items[i]? = some x := by
      have : (items.drop i)[0]? = some x := by rw [hd]; rfl
      simpa using this
    have hdx : items.drop (i + 1) = xs := by
      rw [← List.drop_drop, hd] <;> rfl
    have p2 : Post _ E ((if src.ok S2 = true then
      match turnC F ie t c ρ x S2 with
      | .ok (some d) S' => (gc S2 d S').bind fun d' S'' => match S''[n]? with
        | some (.lst acc) => if acc.length < sizeLine then loopC src (turnC F ie t c ρ) n xs (S''.set n (.lst (acc ++ [d']))) else .bad
        | _ => .bad
      | .ok none S' => (gc S2 .non S').bind fun _ S'' => loopC src (turnC F ie t c ρ) n xs S''
      | _ => .bad
    else .bad).bind fun _ S5 => k S5) μ2 H2 _ := p2
    by_cases kk : src.ok S2 = true
    · rw [if_pos kk] at p2
      obtain ⟨hgo, hyl⟩ := ok.go i x μ2 S2 H2 e2 r2 kk hxi
      refine .inr ⟨hgo, fun H' => ∃ μ' S', Ext X.K μ1 μ' H1 H' ∧ Rel (gX X ca) μ' S' H' ∧
        Post (gX X ca) E ((loopC src (turnC F ie t c ρ) n xs S').bind fun _ S5 => k S5) μ' H' fun d _ μ' H' => ∀ v, Rep X.K μ' H' d v → Q v H',
        fun H' q => ⟨items.length - (i + 1), by omega, rfl, by rw [hdx]; exact q⟩, fun v H3 y => ?_⟩
      obtain ⟨e3, r3, hv⟩ := hyl v H3 y
      cases hb : bindT t x (wipeE ρ (slotsT t)) with
      | none =>
        have ht : turnC F ie t c ρ x S2 = .bad := by unfold turnC; rw [hb]
        rw [ht] at p2
        exact p2.elim
      | some ρ' =>
        refine ⟨μ2, wipeE ρ (slotsT t), S2, x, ρ', r3, (wipe_slots (((sl.mono e2)).mono e3) _), hv, hb, fun σ2 s2 l2 k2 => ⟨wipe_same (by rw [l2, wipe_length]) k2, ?_⟩⟩
        have ht : turnC F ie t c ρ x S2 = (evC F c ρ' S2).bind fun k S3 => if k then (evE F ie ρ' S3).bind fun d S4 => .ok (some d) S4 else .ok none S3 := by unfold turnC; rw [hb]
        rw [ht] at p2
        cases hcv : evC F c ρ' S2 with
        | ok kb S3 =>
          rw [hcv] at p2
          refine ⟨μ2, ρ', S2, r3, s2, Post.anyE hcv fun μ4 H4 e4 r4 => ?_⟩
          have p2 : Post _ E (Out.bind (match (if kb = true then (evE F ie ρ' S3).bind fun d S4 => .ok (some d) S4 else .ok none S3) with
            | .ok (some d) S' => (gc S2 d S').bind fun d' S'' => match S''[n]? with
              | some (.lst acc) => if acc.length < sizeLine then loopC src (turnC F ie t c ρ) n xs (S''.set n (.lst (acc ++ [d']))) else .bad
              | _ => .bad
            | .ok none S' => (gc S2 .non S').bind fun _ S'' => loopC src (turnC F ie t c ρ) n xs S''
            | _ => .bad) fun _ S5 => k S5) μ2 H2 _ := p2
          cases kb with
          | false =>
            refine iteF ?_
            rw [if_neg Bool.false_ne_true] at p2
            obtain ⟨d2, S5, μ5, eg, q5⟩ := gc_ok (g := gX X ca) (d := .non) (v := .non) (Q := fun d2 S2' μ2' => Ext X.K μ2 μ2' H3 H4 ∧ Rel (gX X ca) μ2' S2' H4) r3 r4 e4 rfl fun d2 S2' μ2' _ e5 r5 _ => ⟨e5, r5⟩
            have p2 : Post _ E (((gc S2 .non S3).bind fun _ S'' => loopC src (turnC F ie t c ρ) n xs S'').bind fun _ S5 => k S5) μ2 H2 _ := p2
            rw [eg] at p2
            exact ⟨μ5, S5, e2.trans (e3.trans q5.1), q5.2, Post.pre (e3.trans q5.1) p2⟩
          | true =>
            refine iteT ?_
            rw [if_pos rfl] at p2
            cases hev : evE F ie ρ' S3 with
            | ok d S4 =>
              rw [hev] at p2
              refine ⟨μ4, ρ', S3, r4, s2.mono e4, Post.anyE hev fun μ5 H5 e5 r5 w hw => ?_⟩
              obtain ⟨d2, S6, μ6, eg, e6, r6, hw6⟩ := gc_ok (g := gX X ca) (Q := fun d2 S2' μ2' => Ext X.K μ2 μ2' H3 H5 ∧ Rel (gX X ca) μ2' S2' H5 ∧ Rep X.K μ2' H5 d2 w) r3 r5 (e4.trans e5) hw fun d2 S2' μ2' _ e5 r5 hw => ⟨e5, r5, hw⟩
              have p2 : Post _ E (((gc S2 d S4).bind fun d' S'' => match S''[n]? with
                | some (.lst acc) => if acc.length < sizeLine then loopC src (turnC F ie t c ρ) n xs (S''.set n (.lst (acc ++ [d']))) else .bad
                | _ => .bad).bind fun _ S5 => k S5) μ2 H2 _ := p2
              rw [eg] at p2
              have p2 : Post _ E ((match S6[n]? with
                | some (.lst acc) => if acc.length < sizeLine then loopC src (turnC F ie t c ρ) n xs (S6.set n (.lst (acc ++ [d2]))) else .bad
                | _ => .bad).bind fun _ S5 => k S5) μ2 H2 _ := p2
              have hn6 : μ6[n]? = some Dn := e6.at_ (e2.at_ hn0)
              split at p2
              · rename_i acc hacc
                obtain ⟨vs, h1, h2⟩ := r6.at_ _ Dn _ hn6 hacc
                by_cases cz : acc.length < sizeLine
                · rw [if_pos cz] at p2
                  have n1 : ∀ q u, H5 Dn ≠ some (.frz q u) := fun q u e => by rw [h1] at e; cases e
                  have e7 : Ext X.K μ6 μ6 H5 (upd H5 Dn (.lst (vs ++ [w]))) := Ext.put (List.mem_of_getElem? hn6) n1
                  have r7 := r6.put (c := .lst (acc ++ [d2])) (o := .lst (vs ++ [w])) hn6 n1 ⟨vs ++ [w], upd_same, Reps.mono e7 (h2.app (Reps.one hw6))⟩
                  exact ⟨vs, h1, by rw [← h2.length]; exact cz, μ6, _, e2.trans ((e3.trans e6).trans e7), r7, Post.pre ((e3.trans e6).trans e7) p2⟩
                · rw [if_neg cz] at p2
                  exact p2.elim
              · exact p2.elim
            | ex cc fs S4 => rw [hev] at p2; exact p2.elim
            | bad => rw [hev] at p2; exact p2.elim
        | ex cc fs S3 => rw [hcv] at p2; exact p2.elim
        | bad => rw [hcv] at p2; exact p2.elim
    · rw [if_neg kk] at p2
      exact p2.elim
def turnO (F : Fns) (e : IE) (t : IT) (t2 : IT) (it2 : II) (c : IO) (ρ : Env) (n : Nat) (x : D) (S2 : Store) : Out Unit := match bindT t x (wipeE ρ (slotsT t ++ slotsT t2)) with
      | some ρ' => (evI F it2 ρ' S2).bind fun q S3 => loopC q.2 (turnC F e t2 c ρ') n q.1 S3
      | none => .bad
theorem wipe_sub {σ σ2 : L2.St} {vs : List Nat} {t : List Nat} (hl : σ2.length = σ.length) (h : ∀ i, i ∉ t → σ2[i]? = (wipe σ vs)[i]?) (ht : ∀ i ∈ t, i ∈ vs) : wipe σ2 vs = wipe σ vs :=
  wipe_same hl fun i hi => h i fun hm => hi (ht i hm)
theorem lc2_read {ie : IE} {t t2 : IT} {it it2 : II} {c : IO} {σ : L2.St} {H : Hp} {Q : VK} (h : tE (gX X ca) E F (.lc2 ie t it t2 it2 c) σ H Q) :
    tLc2 (tI (gX X ca) E F t it) (gB (gX X ca) t) (tC (gX X ca) E0 F .none) (tI (gX X ca) E0 F t2 it2) (gB (gX X ca) t2) (tC (gX X ca) E0 F c) (tE (gX X ca) E0 F ie) (slotsT t ++ slotsT t2) (slotsT t2) σ H Q := by
  obtain ⟨μ, ρ, S, r, sl, p⟩ := h
  have p : Post _ E ((evI F it ρ S).bind fun p S1 => (loopO p.2 (turnO F ie t t2 it2 c ρ S1.length) p.1 (S1 ++ [.lst []])).bind fun _ S5 => .ok (D.loc S1.length) S5) μ H _ := p
  refine ⟨μ, ρ, S, r, sl, p.bind.imp ?_⟩
  intro ps S1 μ1 H1 e1 r1 p1 J ok Dn hD
  obtain ⟨items, src⟩ := ps
  have p1 : Post _ E ((loopO src (turnO F ie t t2 it2 c ρ S1.length) items (S1 ++ [.lst []])).bind fun _ S5 => .ok (D.loc S1.length) S5) μ1 H1 _ := p1
  have e0 : Ext X.K μ1 (μ1 ++ [Dn]) H1 (upd H1 Dn (.lst [])) := Ext.new hD
  have r0 : Rel (gX X ca) (μ1 ++ [Dn]) (S1 ++ [.lst []]) (upd H1 Dn (.lst [])) := r1.new hD ⟨[], upd_same, rfl⟩
  have hn0 : (μ1 ++ [Dn])[S1.length]? = some Dn := by rw [← r1.len]; simp
  refine ⟨fun i m H => m = items.length - i ∧ ∃ μ' S', Ext X.K (μ1 ++ [Dn]) μ' (upd H1 Dn (.lst [])) H ∧ Rel (gX X ca) μ' S' H ∧
    Post (gX X ca) E ((loopO src (turnO F ie t t2 it2 c ρ S1.length) (items.drop i) S').bind fun _ S5 => .ok (D.loc S1.length) S5) μ' H fun d _ μ' H' => ∀ v, Rep X.K μ' H' d v → Q v H',
    ⟨items.length, by simp, μ1 ++ [Dn], S1 ++ [.lst []], Ext.refl, r0, by rw [List.drop_zero]; exact Post.pre e0 p1⟩, ?_⟩
  rintro i m H2 ⟨rfl, μ2, S2, e2, r2, p2⟩
  have hx : Ext X.K μ1 μ2 H1 H2 := e0.trans e2
  cases hd : items.drop i with
  | nil =>
    rw [hd] at p2
    have hi : items.length ≤ i := List.drop_eq_nil_iff.mp hd
    have p2 : Post _ E ((if src.ok S2 = true then Out.ok () S2 else .bad).bind fun _ S5 => .ok (D.loc S1.length) S5) μ2 H2 _ := p2
    by_cases k : src.ok S2 = true
    · rw [if_pos k] at p2
      refine .inl ⟨?_, Post.okI (show Post _ E (.ok (D.loc S1.length) S2) μ2 H2 _ from p2) r2 _ ⟨Dn, e2.at_ hn0, rfl⟩⟩
      exact ok.stop μ2 S2 H2 i hx r2 k hi
    · rw [if_neg k] at p2
      exact p2.elim
  | cons x xs =>
    rw [hd] at p2
    have hi : i < items.length := by
      have : (items.drop i).length ≠ 0 := by rw [hd]; simp
      rw [List.length_drop] at this
      omega
    have hxi : items[i]? = some x := by
      have : (items.drop i)[0]? = some x := by rw [hd]; rfl
      simpa using this
    have hdx : items.drop (i + 1) = xs := by
      rw [← List.drop_drop, hd] <;> rfl
    have p2 : Post _ E ((if src.ok S2 = true then (match turnO F ie t t2 it2 c ρ S1.length x S2 with | .ok _ S' => loopO src (turnO F ie t t2 it2 c ρ S1.length) xs S' | _ => .bad) else .bad).bind fun _ S5 => .ok (D.loc S1.length) S5) μ2 H2 _ := p2
    by_cases k : src.ok S2 = true
    · rw [if_pos k] at p2
      obtain ⟨hgo, hyl⟩ := ok.go i x μ2 S2 H2 hx r2 k hxi
      refine .inr ⟨hgo, fun H' => ∃ μ' S', Ext X.K (μ1 ++ [Dn]) μ' (upd H1 Dn (.lst [])) H' ∧ Rel (gX X ca) μ' S' H' ∧
        Post (gX X ca) E ((loopO src (turnO F ie t t2 it2 c ρ S1.length) xs S').bind fun _ S5 => .ok (D.loc S1.length) S5) μ' H' fun d _ μ' H' => ∀ v, Rep X.K μ' H' d v → Q v H',
        fun H' q => ⟨items.length - (i + 1), by omega, rfl, by rw [hdx]; exact q⟩, fun v H3 y => ?_⟩
      obtain ⟨e3, r3, hv⟩ := hyl v H3 y
      cases hb : bindT t x (wipeE ρ (slotsT t ++ slotsT t2)) with
      | none =>
        have ht : turnO F ie t t2 it2 c ρ S1.length x S2 = .bad := by unfold turnO; rw [hb]
        rw [ht] at p2
        exact p2.elim
      | some ρ' =>
        refine ⟨μ2, wipeE ρ (slotsT t ++ slotsT t2), S2, x, ρ', r3, (wipe_slots ((((sl.mono e1).mono hx)).mono e3) _), hv, hb, fun σ2 s2 l2 k2 => ⟨wipe_sub (by rw [l2, wipe_length]) k2 (fun i hi => List.mem_append_left _ hi), ?_⟩⟩
        have ht : turnO F ie t t2 it2 c ρ S1.length x S2 = (evI F it2 ρ' S2).bind fun q S3 => loopC q.2 (turnC F ie t2 c ρ') S1.length q.1 S3 := by unfold turnO; rw [hb]
        rw [ht] at p2
        refine ⟨μ2, ρ', S2, r3, s2, ?_⟩
        refine Post.anyE (a := true) (S' := S2) rfl fun μ4 H4 e4 r4 => ?_
        refine iteT ?_
        refine ⟨μ4, ρ', S2, r4, s2.mono e4, ?_⟩
        cases hev : evI F it2 ρ' S2 with
        | ok ps2 S3 =>
          rw [hev] at p2
          obtain ⟨items2, src2⟩ := ps2
          have p2 : Post _ E ((match loopC src2 (turnC F ie t2 c ρ') S1.length items2 S3 with | .ok _ S' => loopO src (turnO F ie t t2 it2 c ρ S1.length) xs S' | _ => .bad).bind fun _ S5 => .ok (D.loc S1.length) S5) μ2 H2 _ := p2
          have assoc : ∀ {μ' H' R}, Post (gX X ca) E ((match loopC src2 (turnC F ie t2 c ρ') S1.length items2 S3 with | .ok _ S' => loopO src (turnO F ie t t2 it2 c ρ S1.length) xs S' | _ => .bad).bind fun _ S5 => .ok (D.loc S1.length) S5) μ' H' R → Post (gX X ca) E ((loopC src2 (turnC F ie t2 c ρ') S1.length items2 S3).bind fun _ S' => (loopO src (turnO F ie t t2 it2 c ρ S1.length) xs S').bind fun _ S5 => .ok (D.loc S1.length) S5) μ' H' R := fun {μ' H' R} q => by
            cases hl : loopC src2 (turnC F ie t2 c ρ') S1.length items2 S3 with
            | ok a S' => rw [hl] at q; exact q
            | ex cc fs S' => rw [hl] at q; exact q.elim
            | bad => rw [hl] at q; exact q.elim
          have p2 := assoc p2
          refine Post.anyE (a := (items2, src2)) (S' := S3) rfl fun μ5 H5 e5 r5 J1 ok1 => ?_
          have ee := e3.trans (e4.trans e5)
          exact inner_read (Nx := fun H' => ∃ μ' S', Ext X.K (μ1 ++ [Dn]) μ' (upd H1 Dn (.lst [])) H' ∧ Rel (gX X ca) μ' S' H' ∧
            Post (gX X ca) E ((loopO src (turnO F ie t t2 it2 c ρ S1.length) xs S').bind fun _ S5 => .ok (D.loc S1.length) S5) μ' H' fun d _ μ' H' => ∀ v, Rep X.K μ' H' d v → Q v H')
            (E := E) (k := fun S' => (loopO src (turnO F ie t t2 it2 c ρ S1.length) xs S').bind fun _ S5 => .ok (D.loc S1.length) S5) ok1 (ee.at_ (e2.at_ hn0)) (s2.mono (e4.trans e5)) r5 (Post.pre ee p2) fun μ' S' H' e' r' q' => ⟨μ', S', e2.trans (ee.trans e'), r', q'⟩
        | ex cc fs S3 => rw [hev] at p2; exact p2.elim
        | bad => rw [hev] at p2; exact p2.elim
    · rw [if_neg k] at p2
      exact p2.elim
section
variable {elt tg iter tg1 iter1 : Expr} {ifs1 : List Expr} {scope : Scope} {own : List (Str × Nat)} {pos : Pos} {ie : IE} {t t2 : IT} {it it2 : II} {c : IO}
theorem e_lc2 (hc : X.calm = true) (hN : X.N.Nodup) (hi : PI X tg iter (tI (gX X ca) E F t it)) (ok : BlkOk X.N X.env.scope scope own) (ho : own.map (·.2) = slotsT t ++ slotsT t2)
    (hg : ∀ (s : Shared) (H : Hp) (C : Addr) (cl : List (Str × Addr)) (fp : List Addr), PG (X.blk s H scope (compEnvC scope cl C X.env) fp) tg (gB (gX X ca) t))
    (hi1 : ∀ (s : Shared) (H : Hp) (C : Addr) (cl : List (Str × Addr)) (fp : List Addr), PI (X.blk s H scope (compEnvC scope cl C X.env) fp) tg1 iter1 (tI (gX X ca) E0 F t2 it2))
    (hg1 : ∀ (s : Shared) (H : Hp) (C : Addr) (cl : List (Str × Addr)) (fp : List Addr), PG (X.blk s H scope (compEnvC scope cl C X.env) fp) tg1 (gB (gX X ca) t2))
    (ht : ∀ (s : Shared) (H : Hp) (C : Addr) (cl : List (Str × Addr)) (fp : List Addr), PTs (X.blk s H scope (compEnvC scope cl C X.env) fp) ifs1 (tC (gX X ca) E0 F c))
    (he : ∀ (s : Shared) (H : Hp) (C : Addr) (cl : List (Str × Addr)) (fp : List Addr), PE (X.blk s H scope (compEnvC scope cl C X.env) fp) elt (tE (gX X ca) E0 F ie)) (hs : ∀ x, foldedSetIterable iter X.env x = pure x) (hs1 : ∀ env x, foldedSetIterable iter1 env x = pure x) :
    PE X (.ListComp elt [⟨tg, iter, [], 0⟩, ⟨tg1, iter1, ifs1, 0⟩] scope pos) (tE (gX X ca) E F (.lc2 ie t it t2 it2 c)) := by
  refine PE.imp (pe_lc2 (vs1 := slotsT t2) hc hN hi ok (fun i h => by rw [ho]; exact List.mem_append_right _ h) hg (tt := tC (gX X ca) E0 F .none) (fun s H C cl fp => c_nil (X := X.blk s H scope (compEnvC scope cl C X.env) fp)) hi1 hg1 ht he hs hs1) fun σ H Q q => ?_
  rw [ho]
  exact lc2_read q
end
end
end Iv

set_option maxRecDepth 10000
/-! IvE: chains as tests, list(range(..)). -/
namespace Iv
open PySem PySem.Spec PyProof.Rows L2
section
variable {X : Cx} {ca : Nat → Addr} {E : XK} {F : Fns}
theorem chn_bl {op op' : CmpOp} {a b c : IE} {ρ : Env} {S S' : Store} {d : D} (h : evE F (.chn op op' a b c) ρ S = .ok d S') : ∃ k, d = .bl k := by
  have h : ((evE F a ρ S).bind fun x S1 => (evE F b ρ S1).bind fun y S2 => (ok? (cmpD op x y S2) S2).bind fun k _ => if k then (evE F c ρ S2).bind fun z S3 => ok? ((cmpD op' y z S3).map D.bl) S3 else .ok (D.bl false) S2) = .ok d S' := h
  cases ha : evE F a ρ S with
  | ok x S1 =>
    rw [ha] at h
    have h : ((evE F b ρ S1).bind fun y S2 => (ok? (cmpD op x y S2) S2).bind fun k _ => if k then (evE F c ρ S2).bind fun z S3 => ok? ((cmpD op' y z S3).map D.bl) S3 else .ok (D.bl false) S2) = .ok d S' := h
    cases hb : evE F b ρ S1 with
    | ok y S2 =>
      rw [hb] at h
      have h : ((ok? (cmpD op x y S2) S2).bind fun k _ => if k then (evE F c ρ S2).bind fun z S3 => ok? ((cmpD op' y z S3).map D.bl) S3 else .ok (D.bl false) S2) = .ok d S' := h
      cases hc : cmpD op x y S2 with
      | none => rw [hc] at h; cases h
      | some k =>
        rw [hc] at h
        have h : (if k = true then (evE F c ρ S2).bind fun z S3 => ok? ((cmpD op' y z S3).map D.bl) S3 else .ok (D.bl false) S2) = .ok d S' := h
        cases k with
        | false => cases h; exact ⟨_, rfl⟩
        | true =>
          rw [if_pos rfl] at h
          cases hz : evE F c ρ S2 with
          | ok z S3 =>
            rw [hz] at h
            have h : ok? ((cmpD op' y z S3).map D.bl) S3 = .ok d S' := h
            cases hw : cmpD op' y z S3 with
            | none => rw [hw] at h; cases h
            | some k => rw [hw] at h; cases h; exact ⟨_, rfl⟩
          | ex cc fs S3 => rw [hz] at h; cases h
          | bad => rw [hz] at h; cases h
    | ex cc fs S3 => rw [hb] at h; cases h
    | bad => rw [hb] at h; cases h
  | ex cc fs S3 => rw [ha] at h; cases h
  | bad => rw [ha] at h; cases h
theorem chn_read (hu : X.A.units + 100 < cLine) {op op' : CmpOp} {ia ib ic : IE} {σ : L2.St} {H : Hp} {Q : VK} (q : tE (gX X ca) E F (.chn op op' ia ib ic) σ H Q) :
    tChain (r2 (gX X ca) E fun a b S => ok? ((cmpD op a b S).map D.bl) S) (r2 (gX X ca) E fun a b S => ok? ((cmpD op' a b S).map D.bl) S) (tE (gX X ca) E F ia) (tE (gX X ca) E F ib) (tE (gX X ca) E F ic) σ H Q := by
  obtain ⟨μ, ρ, S, r, sl, p⟩ := q
  have p : Post _ E ((evE F ia ρ S).bind fun x S1 => (evE F ib ρ S1).bind fun y S2 => (ok? (cmpD op x y S2) S2).bind fun k _ => if k then (evE F ic ρ S2).bind fun z S3 => ok? ((cmpD op' y z S3).map D.bl) S3 else .ok (D.bl false) S2) μ H _ := p
  refine two r sl p fun x y H2 d d' S2 μ2 e2 r2 hx hy p2 => ?_
  cases hcm : cmpD op d d' S2 with
  | none => rw [hcm] at p2; exact p2.elim
  | some k =>
    rw [hcm] at p2
    refine ⟨μ2, S2, d, d', r2, hx, hy, ?_⟩
    show Post _ E (ok? ((cmpD op d d' S2).map D.bl) S2) μ2 H2 _
    rw [hcm]
    intro μ3 H3 e3 r3 v hv
    obtain rfl : v = .bl k := hv
    refine ⟨k, rfl, ?_⟩
    cases k with
    | false => exact iteF (Post.okI (show Post _ E (.ok (D.bl false) S2) μ3 H3 _ from Post.pre e3 p2) r3 _ rfl)
    | true =>
      refine iteT ?_
      have p3 : Post _ E ((evE F ic ρ S2).bind fun z S3 => ok? ((cmpD op' d' z S3).map D.bl) S3) μ3 H3 _ := Post.pre e3 p2
      exact one r3 ((sl.mono e2).mono e3) p3 fun z H4 d4 S4 μ4 e4 r4 hz p4 => ⟨μ4, S4, d', d4, r4, (hy.mono e3).mono e4, hz, p4⟩
theorem t_chn (hu : X.A.units + 100 < cLine) {op op' : CmpOp} {a b c : Expr} {ia ib ic : IE} {pos : Pos} (ha : PE X a (tE (gX X ca) E F ia)) (hb : PE X b (tE (gX X ca) E F ib)) (hc : PE X c (tE (gX X ca) E F ic)) (hm : lastMarks [op, op'] [b, c] = false) :
    PT X (.Compare a [op, op'] [b, c] pos) (tT (gX X ca) E F (.chn op op' ia ib ic)) := by
  refine PT.imp (pt_chain (op_cmp (ca := ca) (E := E) hu) (op_cmp (ca := ca) (E := E) hu) ha hb hc hm) fun σ H Q q => ?_
  obtain ⟨μ, ρ, S, r, sl, p⟩ := q
  refine chn_read hu ⟨μ, ρ, S, r, sl, ?_⟩
  cases h : evE F (.chn op op' ia ib ic) ρ S with
  | ok d S' =>
    obtain ⟨k, rfl⟩ := chn_bl h
    rw [h] at p
    intro μ' H' e' r' v hv
    obtain rfl : v = .bl k := hv
    exact ⟨k, rfl, Post.okI (show Post _ E (truO (.bl k) S') μ' H' _ from Post.pre e' p) r'⟩
  | ex cc fs S' => rw [h] at p; exact p
  | bad => rw [h] at p; exact p.elim
/-! ### list(range(..)) -/
theorem rgV_rep {K : PySem.W.Frag} {μ : List Addr} {H : Hp} : ∀ (n : Nat) (lo : Int), Reps K μ H (rangeL lo n) ((List.range n).map fun i => V.int (lo + (i : Nat)))
  | 0, _ => rfl
  | n + 1, lo => by
    rw [List.range_succ_eq_map, List.map_cons, List.map_map]
    refine ⟨V.int lo, _, ?_, rfl, rgV_rep n (lo + 1)⟩
    congr 1
    · simp
    · refine List.map_congr_left fun i _ => ?_
      show V.int (lo + ((i + 1 : Nat) : Int)) = V.int (lo + 1 + (i : Int))
      congr 1
      omega
theorem lrange_new {lo hi : Int} {S : Store} {μ : List Addr} {H : Hp} {Q : VK} (r : Rel (gX X ca) μ S H) (hz : (hi - lo).toNat ≤ sizeLine)
    (p : Post (gX X ca) E (newC (.lst (rangeL lo (hi - lo).toNat)) S) μ H fun d _ μ' H' => ∀ v, Rep X.K μ' H' d v → Q v H') : ∀ q, H q = none → Q (.ref q) (upd H q (.lst (rgV lo hi))) := fun q hq => by
  refine Post.new (c := .lst (rangeL lo (hi - lo).toNat)) p r hq ⟨_, upd_same, ?_⟩ _ (Rep.newLoc r.len.symm)
  exact rgV_rep _ _
theorem small_in {i : Int} (h : small62 i = true) : -(2 ^ 62) ≤ i ∧ i < 2 ^ 62 := of_decide_eq_true h
theorem e_lrange1 {a : Expr} {ia : IE} {p p2 pos pos2 : Pos} (hc : X.calm = true) (hg : Gl X "list") (hm : X.mg "list" = none) (hg2 : Gl X "range") (hm2 : X.mg "range" = none) (ha : PE X a (tE (gX X ca) E F ia))
    (na : starEach [a] X.env = (false, eval a X.env) :: starEach [] X.env) (nb : starEach [Expr.Call (.Name "range" p2) [a] [] pos2] X.env = (false, eval (.Call (.Name "range" p2) [a] [] pos2) X.env) :: starEach [] X.env) :
    PE X (.Call (.Name "list" p) [.Call (.Name "range" p2) [a] [] pos2] [] pos) (tE (gX X ca) E F (.lrange (.cons ia .nil))) := by
  refine PE.imp (pe_listRg hc hg hm (prg_1 hg2 hm2 ha na) nb) fun σ H Q q => ?_
  obtain ⟨μ, ρ, S, r, sl, p⟩ := q
  have p : Post _ E (((evE F ia ρ S).bind fun d S1 => Out.ok [d] S1).bind fun ds S1 => match rangeOf ds with
    | some xs => if xs.length ≤ sizeLine then newC (.lst xs) S1 else .bad
    | none => .bad) μ H _ := p
  have p : Post (gX X ca) E ((evE F ia ρ S).bind fun d S1 => match rangeOf [d] with
    | some xs => if xs.length ≤ sizeLine then newC (.lst xs) S1 else .bad
    | none => .bad) μ H fun d _ μ' H' => ∀ v, Rep X.K μ' H' d v → Q v H' := by
    cases h : evE F ia ρ S with
    | ok d S' => rw [h] at p; exact p
    | ex cc fs S' => rw [h] at p; exact p
    | bad => rw [h] at p; exact p
  refine one r sl p fun x H1 d S1 μ1 e1 r1 hx p1 => ?_
  cases d with
  | int j =>
    obtain rfl : x = .int j := hx
    have p1 : Post _ E (match (if small62 j = true then some (rangeL 0 j.toNat) else none) with
      | some xs => if xs.length ≤ sizeLine then newC (.lst xs) S1 else .bad
      | none => .bad) μ1 H1 _ := p1
    by_cases c : small62 j = true
    · rw [if_pos c] at p1
      have p1 : Post _ E (if (rangeL 0 j.toNat).length ≤ sizeLine then newC (.lst (rangeL 0 j.toNat)) S1 else .bad) μ1 H1 _ := p1
      by_cases c2 : (rangeL 0 j.toNat).length ≤ sizeLine
      · rw [if_pos c2] at p1
        rw [rangeL_len, sizeLine_eq] at c2
        obtain ⟨b1, b2⟩ := small_in c
        have e : (j - 0).toNat = j.toNat := by rw [Int.sub_zero]
        exact ⟨j, rfl, ⟨by decide, by decide, b1, b2, by omega⟩, lrange_new (lo := 0) (hi := j) r1 (by rw [sizeLine_eq]; omega) (by rw [e]; exact p1)⟩
      · rw [if_neg c2] at p1; exact p1.elim
    · rw [if_neg c] at p1; exact p1.elim
  | _ => exact p1.elim
end
end Iv

set_option maxRecDepth 10000
/-! IvF: dict comprehensions. -/
namespace Iv
open PySem PySem.Spec PyProof.Rows L2
section
variable {X : Cx} {ca : Nat → Addr} {E : XK} {F : Fns}
def turnD (F : Fns) (k v : IE) (t : IT) (ρ : Env) (n : Nat) (x : D) (S2 : Store) : Out Unit := match bindT t x (wipeE ρ (slotsT t)) with
      | some ρ' => (evE F k ρ' S2).bind fun y S3 => (evE F v ρ' S3).bind fun z S4 => (gc S2 z S4).bind fun z' S5 => putO n y z' S5
      | none => .bad
theorem dc_read {ik iv : IE} {t : IT} {it : II} {σ : L2.St} {H : Hp} {Q : VK} (h : tE (gX X ca) E F (.dc ik iv t it) σ H Q) :
    tDc (tI (gX X ca) E F t it) (gB (gX X ca) t) (tC (gX X ca) E0 F .none) (tE (gX X ca) E0 F ik) (tE (gX X ca) E0 F iv) (slotsT t) σ H Q := by
  obtain ⟨μ, ρ, S, r, sl, p⟩ := h
  have p : Post _ E ((evI F it ρ S).bind fun p S1 => (loopO p.2 (turnD F ik iv t ρ S1.length) p.1 (S1 ++ [.dct false []])).bind fun _ S5 => .ok (D.loc S1.length) S5) μ H _ := p
  refine ⟨μ, ρ, S, r, sl, p.bind.imp ?_⟩
  intro ps S1 μ1 H1 e1 r1 p1 J ok Dn hD
  obtain ⟨items, src⟩ := ps
  have p1 : Post _ E ((loopO src (turnD F ik iv t ρ S1.length) items (S1 ++ [.dct false []])).bind fun _ S5 => .ok (D.loc S1.length) S5) μ1 H1 _ := p1
  have e0 : Ext X.K μ1 (μ1 ++ [Dn]) H1 (upd H1 Dn (.dK [])) := Ext.new hD
  have r0 : Rel (gX X ca) (μ1 ++ [Dn]) (S1 ++ [.dct false []]) (upd H1 Dn (.dK [])) := r1.new hD ⟨[], upd_same, rfl, rfl⟩
  have hn0 : (μ1 ++ [Dn])[S1.length]? = some Dn := by rw [← r1.len]; simp
  refine ⟨fun i m H => m = items.length - i ∧ ∃ μ' S', Ext X.K (μ1 ++ [Dn]) μ' (upd H1 Dn (.dK [])) H ∧ Rel (gX X ca) μ' S' H ∧
    Post (gX X ca) E ((loopO src (turnD F ik iv t ρ S1.length) (items.drop i) S').bind fun _ S5 => .ok (D.loc S1.length) S5) μ' H fun d _ μ' H' => ∀ v, Rep X.K μ' H' d v → Q v H',
    ⟨items.length, by simp, μ1 ++ [Dn], S1 ++ [.dct false []], Ext.refl, r0, by rw [List.drop_zero]; exact Post.pre e0 p1⟩, ?_⟩
  rintro i m H2 ⟨rfl, μ2, S2, e2, r2, p2⟩
  have hx : Ext X.K μ1 μ2 H1 H2 := e0.trans e2
  cases hd : items.drop i with
  | nil =>
    rw [hd] at p2
    have hi : items.length ≤ i := List.drop_eq_nil_iff.mp hd
    have p2 : Post _ E ((if src.ok S2 = true then Out.ok () S2 else .bad).bind fun _ S5 => .ok (D.loc S1.length) S5) μ2 H2 _ := p2
    by_cases k : src.ok S2 = true
    · rw [if_pos k] at p2
      refine .inl ⟨?_, Post.okI (show Post _ E (.ok (D.loc S1.length) S2) μ2 H2 _ from p2) r2 _ ⟨Dn, e2.at_ hn0, rfl⟩⟩
      exact ok.stop μ2 S2 H2 i hx r2 k hi
    · rw [if_neg k] at p2
      exact p2.elim
  | cons x xs =>
    rw [hd] at p2
    have hi : i < items.length := by
      have : (items.drop i).length ≠ 0 := by rw [hd]; simp
      rw [List.length_drop] at this
      omega
    have hxi : items[i]? = some x := by
      have : (items.drop i)[0]? = some x := by rw [hd]; rfl
      simpa using this
    have hdx : items.drop (i + 1) = xs := by
      rw [← List.drop_drop, hd] <;> rfl
    have p2 : Post _ E ((if src.ok S2 = true then (match turnD F ik iv t ρ S1.length x S2 with | .ok _ S' => loopO src (turnD F ik iv t ρ S1.length) xs S' | _ => .bad) else .bad).bind fun _ S5 => .ok (D.loc S1.length) S5) μ2 H2 _ := p2
    by_cases k : src.ok S2 = true
    · rw [if_pos k] at p2
      obtain ⟨hgo, hyl⟩ := ok.go i x μ2 S2 H2 hx r2 k hxi
      refine .inr ⟨hgo, fun H' => ∃ μ' S', Ext X.K (μ1 ++ [Dn]) μ' (upd H1 Dn (.dK [])) H' ∧ Rel (gX X ca) μ' S' H' ∧
        Post (gX X ca) E ((loopO src (turnD F ik iv t ρ S1.length) xs S').bind fun _ S5 => .ok (D.loc S1.length) S5) μ' H' fun d _ μ' H' => ∀ v, Rep X.K μ' H' d v → Q v H',
        fun H' q => ⟨items.length - (i + 1), by omega, rfl, by rw [hdx]; exact q⟩, fun v H3 y => ?_⟩
      obtain ⟨e3, r3, hv⟩ := hyl v H3 y
      cases hb : bindT t x (wipeE ρ (slotsT t)) with
      | none =>
        have ht : turnD F ik iv t ρ S1.length x S2 = .bad := by unfold turnD; rw [hb]
        rw [ht] at p2
        exact p2.elim
      | some ρ' =>
        refine ⟨μ2, wipeE ρ (slotsT t), S2, x, ρ', r3, (wipe_slots ((((sl.mono e1).mono hx)).mono e3) _), hv, hb, fun σ2 s2 l2 k2 => ⟨wipe_same (by rw [l2, wipe_length]) k2, ?_⟩⟩
        have ht : turnD F ik iv t ρ S1.length x S2 = (evE F ik ρ' S2).bind fun y S3 => (evE F iv ρ' S3).bind fun z S4 => (gc S2 z S4).bind fun z' S5 => putO S1.length y z' S5 := by unfold turnD; rw [hb]
        rw [ht] at p2
        refine ⟨μ2, ρ', S2, r3, s2, ?_⟩
        refine Post.anyE (a := true) (S' := S2) rfl fun μ4 H4 e4 r4 => ?_
        refine iteT ?_
        cases hk : evE F ik ρ' S2 with
        | ok dk S3 =>
          rw [hk] at p2
          refine ⟨μ4, ρ', S2, r4, s2.mono e4, Post.anyE hk fun μ5 H5 e5 r5 wk hwk => ?_⟩
          cases hv2 : evE F iv ρ' S3 with
          | ok dv S4 =>
            have p2 : Post _ E ((match (evE F iv ρ' S3).bind fun z S4 => (gc S2 z S4).bind fun z' S5 => putO S1.length dk z' S5 with | .ok _ S' => loopO src (turnD F ik iv t ρ S1.length) xs S' | _ => .bad).bind fun _ S5 => .ok (D.loc S1.length) S5) μ2 H2 _ := p2
            rw [hv2] at p2
            refine ⟨μ5, ρ', S3, r5, s2.mono (e4.trans e5), Post.anyE hv2 fun μ6 H6 e6 r6 w hw => ?_⟩
            obtain ⟨d2, S6, μ7, eg, e7, r7, hw7⟩ := gc_ok (g := gX X ca) (Q := fun d2 S2' μ2' => Ext X.K μ2 μ2' H3 H6 ∧ Rel (gX X ca) μ2' S2' H6 ∧ Rep X.K μ2' H6 d2 w) r3 r6 ((e4.trans e5).trans e6) hw fun d2 S2' μ2' _ e5 r5 hw => ⟨e5, r5, hw⟩
            have p2 : Post _ E ((match (gc S2 dv S4).bind fun z' S5 => putO S1.length dk z' S5 with | .ok _ S' => loopO src (turnD F ik iv t ρ S1.length) xs S' | _ => .bad).bind fun _ S5 => .ok (D.loc S1.length) S5) μ2 H2 _ := p2
            rw [eg] at p2
            have p2 : Post _ E ((match putO S1.length dk d2 S6 with | .ok _ S' => loopO src (turnD F ik iv t ρ S1.length) xs S' | _ => .bad).bind fun _ S5 => .ok (D.loc S1.length) S5) μ2 H2 _ := p2
            have hn7 : μ7[S1.length]? = some Dn := e7.at_ (e2.at_ hn0)
            cases hq : D.key? dk with
            | none =>
              have z : putO S1.length dk d2 S6 = .bad := by unfold putO; rw [hq]
              rw [z] at p2
              exact p2.elim
            | some q =>
              obtain rfl : wk = kV q := key_rep hq hwk
              cases hc : S6[S1.length]? with
              | none =>
                have z : putO S1.length dk d2 S6 = .bad := by unfold putO; rw [hq, hc]
                rw [z] at p2
                exact p2.elim
              | some c =>
                cases c with
                | dct lk kvs =>
                  cases lk with
                  | true =>
                    have z : putO S1.length dk d2 S6 = .bad := by unfold putO; rw [hq, hc]
                    rw [z] at p2
                    exact p2.elim
                  | false =>
                    have z : putO S1.length dk d2 S6 = if kvs.length < sizeLine ∧ (kvs.map (·.1)).Nodup then .ok () (S6.set S1.length (.dct false (putA q d2 kvs))) else .bad := by unfold putO; rw [hq, hc]
                    rw [z] at p2
                    by_cases cz : kvs.length < sizeLine ∧ (kvs.map (·.1)).Nodup
                    · rw [if_pos cz] at p2
                      obtain ⟨kvs', h1, h2, h3⟩ := r7.at_ _ Dn _ hn7 hc
                      have h1 : H6 Dn = some (.dK kvs') := h1
                      have n1 : ∀ q u, H6 Dn ≠ some (.frz q u) := fun q u e => by rw [h1] at e; cases e
                      have e8 : Ext X.K μ7 μ7 H6 (upd H6 Dn (.dK (putK kvs' q w))) := Ext.put (List.mem_of_getElem? hn7) n1
                      have nd : (kvs'.map (·.1)).Nodup := by rw [← h2]; exact cz.2
                      obtain ⟨z1, z2⟩ := put_rep (k := q) hw7 h2 h3 nd
                      have r8 := r7.put (c := .dct false (putA q d2 kvs)) (o := .dK (putK kvs' q w)) hn7 n1 ⟨_, upd_same, z1, Reps.mono e8 z2⟩
                      have hl : kvs.length = kvs'.length := by have := congrArg List.length h2; simpa using this
                      exact ⟨kvs', q, rfl, h1, by rw [← hl]; exact cz.1, μ7, _, e2.trans ((e3.trans e7).trans e8), r8, Post.pre ((e3.trans e7).trans e8) p2⟩
                    · rw [if_neg cz] at p2
                      exact p2.elim
                | _ =>
                  have z : putO S1.length dk d2 S6 = .bad := by unfold putO; rw [hq, hc]
                  rw [z] at p2
                  exact p2.elim
          | ex cc fs S4 =>
            have p2 : Post _ E ((match (evE F iv ρ' S3).bind fun z S4 => (gc S2 z S4).bind fun z' S5 => putO S1.length dk z' S5 with | .ok _ S' => loopO src (turnD F ik iv t ρ S1.length) xs S' | _ => .bad).bind fun _ S5 => .ok (D.loc S1.length) S5) μ2 H2 _ := p2
            rw [hv2] at p2
            exact p2.elim
          | bad =>
            have p2 : Post _ E ((match (evE F iv ρ' S3).bind fun z S4 => (gc S2 z S4).bind fun z' S5 => putO S1.length dk z' S5 with | .ok _ S' => loopO src (turnD F ik iv t ρ S1.length) xs S' | _ => .bad).bind fun _ S5 => .ok (D.loc S1.length) S5) μ2 H2 _ := p2
            rw [hv2] at p2
            exact p2.elim
        | ex cc fs S3 => rw [hk] at p2; exact p2.elim
        | bad => rw [hk] at p2; exact p2.elim
    · rw [if_neg k] at p2
      exact p2.elim
section
variable {kx vx tg iter : Expr} {scope : Scope} {own : List (Str × Nat)} {pos : Pos} {ik iv : IE} {t : IT} {it : II}
theorem e_dc (hc : X.calm = true) (hN : X.N.Nodup) (hi : PI X tg iter (tI (gX X ca) E F t it)) (ok : BlkOk X.N X.env.scope scope own) (ho : own.map (·.2) = slotsT t)
    (hg : ∀ (s : Shared) (H : Hp) (C : Addr) (cl : List (Str × Addr)) (fp : List Addr), PG (X.blk s H scope (compEnvC scope cl C X.env) fp) tg (gB (gX X ca) t))
    (hk : ∀ (s : Shared) (H : Hp) (C : Addr) (cl : List (Str × Addr)) (fp : List Addr), PE (X.blk s H scope (compEnvC scope cl C X.env) fp) kx (tE (gX X ca) E0 F ik))
    (hv : ∀ (s : Shared) (H : Hp) (C : Addr) (cl : List (Str × Addr)) (fp : List Addr), PE (X.blk s H scope (compEnvC scope cl C X.env) fp) vx (tE (gX X ca) E0 F iv)) (hs : ∀ x, foldedSetIterable iter X.env x = pure x) :
    PE X (.DictComp kx vx [⟨tg, iter, [], 0⟩] scope pos) (tE (gX X ca) E F (.dc ik iv t it)) := by
  refine PE.imp (pe_dc (tt := tC (gX X ca) E0 F .none) hc hN hi ok hg (fun s H C cl fp => c_nil (X := X.blk s H scope (compEnvC scope cl C X.env) fp)) hk hv hs) fun σ H Q q => ?_
  rw [ho]
  exact dc_read q
/-- name = {..} on one line -/
theorem st_setDc {i : Nat} {y : Str} {py spos : Pos}
    (hc : X.calm = true) (hN : X.N.Nodup) (hy : X.N[i]? = some y)
    (hyl : X.env.scope.names.lookup y = some .local)
    (hsw : swapsWith (.DictComp kx vx [⟨tg, iter, [], 0⟩] scope pos) (some (.Name y py)) spos.line X.env = pure true)
    (hi : PI X tg iter (tI (gX X ca) E F t it)) (ok : BlkOk X.N X.env.scope scope own) (ho : own.map (·.2) = slotsT t)
    (hg : ∀ (s : Shared) (H : Hp) (C : Addr) (cl : List (Str × Addr)) (fp : List Addr), PG (X.blk s H scope (compEnvC scope cl C X.env) fp) tg (gB (gX X ca) t))
    (hk : ∀ (s : Shared) (H : Hp) (C : Addr) (cl : List (Str × Addr)) (fp : List Addr), PE (X.blk s H scope (compEnvC scope cl C X.env) fp) kx (tE (gX X ca) E0 F ik))
    (hv : ∀ (s : Shared) (H : Hp) (C : Addr) (cl : List (Str × Addr)) (fp : List Addr), PE (X.blk s H scope (compEnvC scope cl C X.env) fp) vx (tE (gX X ca) E0 F iv))
    (hs : ∀ x, foldedSetIterable iter X.env x = pure x) :
    PS X (.Assign [.Name y py] (.DictComp kx vx [⟨tg, iter, [], 0⟩] scope pos) spos) (tS (gX X ca) E F (.asg (.nm i) (.dc ik iv t it))) := by
  refine ⟨fun pins s σ H Dd I q => ?_⟩
  obtain ⟨μ, ρ, S, r, sl, p⟩ := q
  have p : PostS _ E Dd ((evE F (.dc ik iv t it) ρ S).bindS fun d S1 => (asgT F (.nm i) d ρ S1).bindS fun ρ' S' => .nx ρ' S') μ H := p
  have rd : tDc (tI (gX X ca) E F t it) (gB (gX X ca) t) (tC (gX X ca) E0 F .none) (tE (gX X ca) E0 F ik) (tE (gX X ca) E0 F iv) (own.map (·.2)) σ H (fun x H1 => Dd.nx (σ.set i (some x)) H1) := by
    rw [ho]
    refine dc_read ⟨μ, ρ, S, r, sl, p.bindS.imp fun d S1 μ1 H1 e1 r1 q v hv => ?_⟩
    have q : PostS _ E Dd ((if i < ρ.length then Out.ok (ρ.set i (some d)) S1 else .bad).bindS fun ρ' S' => .nx ρ' S') μ1 H1 := q
    by_cases cc : i < ρ.length
    · rw [if_pos cc] at q
      exact q.okN r1 ((sl.mono e1).set i hv)
    · rw [if_neg cc] at q
      exact q.elim
  rw [exec_Assign_Name_used _ _ _ _ hsw]
  refine wpAny_bind (wpAny_standAt (wpAny_bind (wpAny_bind (thn (dc_core (Qf := fun _ s' => SP X pins Dd .next s') (use := some (assign (.Name y py) X.env))
    hc hN I hi ok hg (fun s H C cl fp => c_nil (X := X.blk s H scope (compEnvC scope cl C X.env) fp)) hk hv hs rd ?_) fun _ s' hq => wpAny_pure (wpAny_pure hq)))))
  intro L C s' m H' I' q hn f
  refine (?_ : wpAny _ _ (assign (.Name y py) X.env (.ref L)) _ _ _)
  obtain ⟨f0, f1, f2, f3, f4, f5⟩ := f
  refine wpAny_assign_Name (store_ok2 (v := V.ref L) I' hN hy (.inl hyl) rfl (fun s2 I2 ⟨a, sb, ha⟩ => ⟨m, hn.sameBut sb ?_, fun h3 sb3 => ?_⟩) (.inr hyl))
  · exact ha.elim (fun z => by rw [z]; exact f1) fun z e => f4 y a z e.symm
  · exact ⟨_, H', I2.turned (t' := s2.toks) (fun b o hb e => (sb3.2 b hb).trans e) f0 f1 f3 f4 f5, q⟩
end
end
end Iv

set_option maxRecDepth 10000
/-! IvG: displays of dicts. -/
namespace Iv
open PySem PySem.Spec PyProof.Rows L2
section
variable {X : Cx} {ca : Nat → Addr} {E : XK} {F : Fns}
def flatP (ps : List (V × V)) : List V := ps.flatMap fun p => [p.1, p.2]
def prsOf (g : G) (E : XK) (F : Fns) : IEs → List (TE × TE)
  | .cons a (.cons b r) => (tE g E F a, tE g E F b) :: prsOf g E F r
  | .cons _ .nil => []
  | .nil => []
def evenE : IEs → Bool
  | .nil => true
  | .cons _ (.cons _ r) => evenE r
  | .cons _ .nil => false
theorem bind3 {α β γ : Type} (o : Out α) (f : α → Store → Out β) (k : β → Store → Out γ) : (o.bind f).bind k = o.bind fun a S => (f a S).bind k := by cases o <;> rfl
theorem pairs_go {g : G} {σ : L2.St} {ρ : Env} : ∀ (es : IEs) {μ : List Addr} {S : Store} {H : Hp} {k : List D → Store → Out D} {R : D → Store → List Addr → Hp → Prop} {Q : List (V × V) → Hp → Prop}, evenE es = true → Rel g μ S H → Slots g.K μ H σ ρ → Post g E ((evEs F es ρ S).bind k) μ H R →
    (∀ ps H1 ds S1 μ1, Ext g.K μ μ1 H H1 → Rel g μ1 S1 H1 → Reps g.K μ1 H1 ds (flatP ps) → Post g E (k ds S1) μ1 H1 R → Q ps H1) → tPairs (prsOf g E F es) σ H Q
  | .nil, μ, S, H, k, R, Q, _, r, sl, p, h => h [] H [] S μ Ext.refl r rfl p
  | .cons _ .nil, _, _, _, _, _, _, he, _, _, _, _ => by cases he
  | .cons a (.cons b es), μ, S, H, k, R, Q, he, r, sl, p, h => by
    have p : Post g E (((evE F a ρ S).bind fun d S1 => ((evE F b ρ S1).bind fun d' S2 => (evEs F es ρ S2).bind fun ds S3 => .ok (d' :: ds) S3).bind fun ds S2 => .ok (d :: ds) S2).bind k) μ H R := p
    rw [bind3] at p
    refine one r sl p fun x H1 d S1 μ1 e1 r1 hx p1 => ?_
    rw [bind3, bind3] at p1
    refine one r1 (sl.mono e1) p1 fun y H2 d' S2 μ2 e2 r2 hy p2 => ?_
    rw [bind3] at p2
    refine pairs_go es he r2 ((sl.mono e1).mono e2) p2 fun ps H3 ds S3 μ3 e3 r3 hds p3 => ?_
    exact h ((x, y) :: ps) H3 (d :: d' :: ds) S3 μ3 (e1.trans (e2.trans e3)) r3 ⟨x, _, rfl, (hx.mono e2).mono e3, y, _, rfl, hy.mono e3, hds⟩ p3
theorem pairUp_rep {K : PySem.W.Frag} {μ : List Addr} {H : Hp} : ∀ {ds : List D} {qs : List (Key × D)} {ps : List (V × V)}, pairUp ds = some qs → Reps K μ H ds (flatP ps) → ∃ kvs : List (L2.Key × V), ps = kvs.map (fun kv => (kV kv.1, kv.2)) ∧ qs.map (·.1) = kvs.map (·.1) ∧ Reps K μ H (qs.map (·.2)) (kvs.map (·.2))
  | [], qs, ps, e, h => by
    cases e
    cases ps with
    | nil => exact ⟨[], rfl, rfl, rfl⟩
    | cons p ps => cases (show flatP (p :: ps) = [] from h)
  | [_], qs, ps, e, h => by cases e
  | k :: v :: r, qs, ps, e, h => by
    have e : (match D.key? k, pairUp r with
      | some q, some ps => some ((q, v) :: ps)
      | _, _ => none) = some qs := e
    cases hk : D.key? k with
    | none => rw [hk] at e; cases e
    | some q =>
      cases hr : pairUp r with
      | none => rw [hk, hr] at e; cases e
      | some qr =>
        rw [hk, hr] at e
        cases e
        obtain ⟨x, xr, e1, h1, y, yr, e2, h2, h3⟩ := h
        cases ps with
        | nil => cases e1
        | cons p ps =>
          subst e2
          obtain ⟨a1, b1⟩ := List.cons.inj (show p.1 :: p.2 :: flatP ps = x :: y :: yr from e1)
          obtain ⟨a2, b2⟩ := List.cons.inj b1
          clear e1 b1
          subst a1 a2 b2
          obtain ⟨kvs, z1, z2, z3⟩ := pairUp_rep hr h3
          have hq := key_rep hk h1
          refine ⟨(q, p.2) :: kvs, ?_, ?_, ⟨p.2, _, rfl, h2, z3⟩⟩
          · rw [List.map_cons, ← z1, ← hq]
          · rw [List.map_cons, List.map_cons, z2]
theorem e_dis {keys : List (Option Expr)} {values : List Expr} {pos : Pos} {es : IEs} (hp : PPs X pos keys values (prsOf (gX X ca) E F es)) (he : evenE es = true) (hall : keys.all (·.isSome) = true) (hl : keys.length = values.length) (h0 : keys ≠ []) (h15 : keys.length ≤ 15) :
    PE X (.Dict keys values pos) (tE (gX X ca) E F (.dis es)) := by
  refine PE.imp (pe_disp hp hall hl h0 h15) fun σ H Q q => ?_
  obtain ⟨μ, ρ, S, r, sl, p⟩ := q
  intro a ha
  have e0 : Ext X.K μ (μ ++ [a]) H (upd H a (.dK [])) := Ext.new ha
  have r0 : Rel (gX X ca) (μ ++ [a]) (S ++ [.dct false []]) (upd H a (.dK [])) := r.new ha ⟨[], upd_same, rfl, rfl⟩
  have hn0 : (μ ++ [a])[S.length]? = some a := by rw [← r.len]; simp
  have p : Post _ E ((evEs F es ρ (S ++ [.dct false []])).bind fun ds S2 => match pairUp ds with
    | some ps => if S2[S.length]? = some (.dct false []) ∧ ps.length ≤ 15 then Out.ok (D.loc S.length) (S2.set S.length (.dct false (fromPairs [] ps))) else .bad
    | none => .bad) μ H _ := p
  refine pairs_go es he r0 (sl.mono e0) (Post.pre e0 p) fun ps H1 ds S1 μ1 e1 r1 hds p1 => ?_
  cases hu : pairUp ds with
  | none => rw [hu] at p1; exact p1.elim
  | some qs =>
    rw [hu] at p1
    have p1 : Post _ E (if S1[S.length]? = some (.dct false []) ∧ qs.length ≤ 15 then Out.ok (D.loc S.length) (S1.set S.length (.dct false (fromPairs [] qs))) else .bad) μ1 H1 _ := p1
    by_cases c : S1[S.length]? = some (.dct false []) ∧ qs.length ≤ 15
    · rw [if_pos c] at p1
      obtain ⟨kvs, z1, z2, z3⟩ := pairUp_rep hu hds
      have hn1 : μ1[S.length]? = some a := e1.at_ hn0
      obtain ⟨k', h1, h2, _⟩ := r1.at_ _ a _ hn1 c.1
      have h1 : H1 a = some (.dK k') := h1
      have : k' = [] := by
        have := congrArg List.length h2
        simp at this
        exact List.eq_nil_of_length_eq_zero this.symm
      subst this
      refine ⟨h1, kvs, z1, ?_, ?_⟩
      · have := congrArg List.length z2
        simp only [List.length_map] at this
        omega
      · obtain ⟨w1, w2⟩ := from_rep (acc := []) (ak := []) z2 z3 rfl (show Reps X.K μ1 H1 [] [] from rfl) List.nodup_nil
        have n1 : ∀ q u, H1 a ≠ some (.frz q u) := fun q u e => by rw [h1] at e; cases e
        have e2 : Ext X.K μ1 μ1 H1 (upd H1 a (.dK (mergeK [] kvs))) := Ext.put (List.mem_of_getElem? hn1) n1
        have r2 := r1.put (c := .dct false (fromPairs [] qs)) (o := .dK (mergeK [] kvs)) hn1 n1 ⟨_, upd_same, w1, Reps.mono e2 w2⟩
        exact p1 μ1 _ e2 r2 _ ⟨a, hn1, rfl⟩
    · rw [if_neg c] at p1
      exact p1.elim
end
end Iv

set_option maxRecDepth 10000
/-! IvH: isinstance(e, tuple), isinstance(e, int). -/
namespace Iv
open PySem PySem.Spec PyProof.Rows L2
def isiN (k : Bool) : Str := if k then "tuple" else "int"
section
variable {X : Cx} {ca : Nat → Addr} {E : XK} {F : Fns}
theorem boot_isi : bootBuiltins "isinstance" = some (.builtin "isinstance") := by decide +kernel
theorem e_isi {k : Bool} {e : Expr} {ie : IE} {p p2 pos : Pos} (hg : Gl X "isinstance") (hm : X.mg "isinstance" = none) (hg2 : Gl X (isiN k)) (hm2 : X.mg (isiN k) = none) (he : PE X e (tE (gX X ca) E F ie)) (hs : nst e = true) :
    PE X (.Call (.Name "isinstance" p) [e, .Name (isiN k) p2] [] pos) (tE (gX X ca) E F (.isi k ie)) := by
  have hv : bootBuiltins (isiN k) = some (.type (if k then "tuple" else "int")) := by cases k <;> decide +kernel
  have h2 : PE X (.Name (isiN k) p2) (L2.tC (V.ty (if k then "tuple" else "int"))) := pe_bltn hg2 hm2 hv rfl (by cases k <;> decide) (by cases k <;> decide)
  have ha := pa_cons he (pa_cons h2 pa_nil (star_cons rfl)) (star_cons hs)
  refine PE.imp (pe_callB call_isi hg hm boot_isi ha (by decide) (by decide) (star_cons hs) rfl) fun σ H Q q => ?_
  obtain ⟨μ, ρ, S, r, sl, p⟩ := q
  have p : Post (gX X ca) E ((evE F ie ρ S).bind fun x S1 => match k, x with
    | true, .tup _ => .ok (.bl true) S1
    | false, .int _ => .ok (.bl true) S1
    | _, _ => .bad) μ H fun d _ μ' H' => ∀ v, Rep X.K μ' H' d v → Q v H' := p
  refine one r sl p fun x H1 d S1 μ1 e1 r1 hx p1 => ?_
  cases k with
  | true =>
    cases d with
    | tup ds =>
      obtain ⟨a, vs, rfl, ⟨o, h1, _⟩, _⟩ := hx
      exact ⟨.ref a, .ty "tuple", .type "tuple", .type "tuple", true, rfl, .ty "tuple", .fTuple h1, if_pos (by decide +kernel), Post.okI (show Post _ E (.ok (D.bl true) S1) μ1 H1 _ from p1) r1 _ rfl⟩
    | _ => exact p1.elim
  | false =>
    cases d with
    | int i =>
      obtain rfl : x = .int i := hx
      exact ⟨.int i, .ty "int", .type "int", .type "int", true, rfl, .ty "int", .base (TyOf.int i), if_pos (by decide +kernel), Post.okI (show Post _ E (.ok (D.bl true) S1) μ1 H1 _ from p1) r1 _ rfl⟩
    | _ => exact p1.elim
end
end Iv

set_option maxRecDepth 100000
/-! IvI: set comprehensions of texts and numbers, min, max of one thing. -/
namespace Iv
open PySem PySem.Spec PyProof.Rows L2 PpSet
section
variable {X : Cx}
theorem addSk_ok {pins : List (Addr × Obj)} {σ : L2.St} {H : Hp} {s : Shared} {E : Value → Shared → Prop} {D : Addr} {k : L2.Key} {S : L2.Key → Bool} {n : Nat} {u : Value} {Q : Value → Shared → Prop} (I : Inv X pins σ H s) (hD : H D = some (SetK X.prog X.w D S n)) (room : n + 1 < scanBound) (ru : RelV (kV k) u)
    (h : ∀ s', Inv X pins σ (upd H D (SetK X.prog X.w D (fun j => S j || decide (j = k)) (if S k = true then n else n + 1))) s' → Q .none s') : wpAny (model X.prog X.w) X.A (call (.builtin "set.add") [.ref D, u]) Q E s := by
  refine call_set_add (kV_is ru) (key_scan ru) (setK_get I hD) room fun h' sb new => ?_
  have he : ∃ u, h'.get? D = some u := by
    have ⟨o, _, _, _, ho, _⟩ := new
    exact ⟨o, ho⟩
  exact h _ (I.write (e := D) (t' := s.toks + 1) (by rw [hD]; trivial) (.inl rfl) (fun b u hb hu => (sb.2 b hb).trans hu) he (setK_new new))
/-- {elt for target in iter if ..}, elt a key: D the new set -/
def tSk (P : Program) (w : World) (wi : TI) (g : TG) (tt : TT) (te : TE) (vs : List Nat) : TE := fun σ H Q => wi σ H fun J H1 => ∀ D, H1 D = none → ∃ W : Nat → Nat → Hp → Prop, (∃ m, W 0 m (upd H1 D (SetK P w D (fun _ => false) 0))) ∧ ∀ i m H, W i m H →
  (J.stop i H ∧ Q (.ref D) H) ∨ (J.go i H ∧ ∃ Nx : Hp → Prop, (∀ H', Nx H' → ∃ m', m' < m ∧ W (i + 1) m' H') ∧ ∀ x H', J.yld i H x H' → g x (wipe σ vs) H' fun σ2 H2 => wipe σ2 vs = wipe σ vs ∧ tt σ2 H2 fun b H3 =>
    if b = true then te σ2 H3 fun y H4 => ∃ (c : L2.Key) (S : L2.Key → Bool) (n : Nat), y = kV c ∧ H4 D = some (SetK P w D S n) ∧ n + 1 < scanBound ∧ Nx (upd H4 D (SetK P w D (fun j => S j || decide (j = c)) (if S c = true then n else n + 1))) else Nx H3)
theorem sk_core {pins : List (Addr × Obj)} {s : Shared} {σ : L2.St} {H : Hp} {Q : VK} {elt tg iter : Expr} {ifs : List Expr} {scope : Scope} {own : List (PySem.Str × Nat)} {pos pos' : Pos} {wi : TI} {g : TG} {tt : TT} {te : TE} {use : Option (Value → Sem Unit)} {Qf : Value → Shared → Prop}
    (hc : X.calm = true) (hN : X.N.Nodup) (I : Inv X pins σ H s) (hi : PI X tg iter wi) (ok : BlkOk X.N X.env.scope scope own)
    (hg : ∀ (s : Shared) (H : Hp) (C : Addr) (cl : List (PySem.Str × Addr)) (fp : List Addr), PG (X.blk s H scope (compEnvC scope cl C X.env) fp) tg g) (ht : ∀ (s : Shared) (H : Hp) (C : Addr) (cl : List (PySem.Str × Addr)) (fp : List Addr), PTs (X.blk s H scope (compEnvC scope cl C X.env) fp) ifs tt)
    (he : ∀ (s : Shared) (H : Hp) (C : Addr) (cl : List (PySem.Str × Addr)) (fp : List Addr), PE (X.blk s H scope (compEnvC scope cl C X.env) fp) elt te) (hs : ∀ x, foldedSetIterable iter X.env x = pure x)
    (h : tSk X.prog X.w wi g tt te (own.map (·.2)) σ H Q)
    (hRR : ∀ D C s' m H', Inv X pins σ H' s' → Q (.ref D) H' → s'.heap.Ns C m → FpOk X pins H' C → compPost (model X.prog X.w) X.A X.xe use Qf (.ref D) C (.ok .next) s') :
    wpAny (model X.prog X.w) X.A (comprehension (.SetComp elt [⟨tg, iter, ifs, 0⟩] scope pos) scope X.env pos' (newSet (.type "set")) false (eval iter X.env) use) Qf X.xe s := by
  have hfree : ∀ y ∈ scope.names, y.2 = .free → ∃ c, X.env.cells.lookup y.1 = some c := fun y hy e => by
    rcases ok.free y hy e with k | k
    · exact I.ok.has _ (.inl k)
    · exact I.ok.has _ (.inr k)
  refine wpAny_comprehension_free (use := use) rfl hs (closure_ok hfree) ok.kind (fun y hy e => by rw [ok.uniq y hy, e])
    (thn (hi.run pins s σ H _ I h) fun xv s1 hx => thn hx fun itv s2 h2 => ?_)
  obtain ⟨it, fp, tn, J, H2, e, I2, T, st2, f2, q⟩ := h2
  subst e
  refine newSet_ok (newEnv_comp ?_)
  generalize hD : s2.heap.objs.size = D
  have hDn : H2 D = none := I2.hok.fresh (Nat.le_of_eq hD)
  obtain ⟨W, ⟨m0, w0⟩, turn⟩ := q D hDn
  -- the new list
  generalize hs3 : ({ s2 with heap := s2.heap.push { cls := .type "set", dict := none, data := .set #[] 0 (.fresh 0 0 (!X.w.params.followText "set-order")) } } : Shared) = s3
  have I3 : Inv X pins σ (upd H2 D (SetK X.prog X.w D (fun _ => false) 0)) s3 := by
    rw [← hs3]
    refine I2.laid (t' := s2.toks) (fun b o e => Heap.get?_push_of_some _ e) (Nat.le_of_eq hD) ?_
    rw [← hD]
    exact setK_new ⟨_, #[], 0, _, Heap.get?_push_size _ rfl, ⟨rfl, rfl, rfl⟩, rfl, (fun e he => by simp at he), (fun k => by simp), (by decide), (by rfl), rfl⟩
  have h3 : s3.heap = s2.heap.push { cls := .type "set", dict := none, data := .set #[] 0 (.fresh 0 0 (!X.w.params.followText "set-order")) } := by rw [← hs3]
  have sz : ∀ b ∈ fp, b < s2.heap.objs.size := fun b hb => by
    obtain ⟨o, e, _⟩ := T.obj _ _ st2 b hb
    exact Heap.lt_size e
  have f3 : ∀ b ∈ fp, FpOk X pins (upd H2 D (SetK X.prog X.w D (fun _ => false) 0)) b ∧ b < s3.heap.objs.size := fun b hb => by
    have hlt := sz b hb
    refine ⟨⟨?_, (f2 b hb).2⟩, by rw [h3, Heap.size_push]; exact Nat.lt_succ_of_lt hlt⟩
    rw [upd_ne (by rw [← hD]; exact Nat.ne_of_lt hlt)]
    exact (f2 b hb).1
  have st3 : tn 0 s3.heap := T.keep _ _ _ st2 fun b _ o e => by rw [h3]; exact Heap.get?_push_of_some _ e
  have I4 := block_start I3 ok hN f3
  have pg := hg s3 (upd H2 D (SetK X.prog X.w D (fun _ => false) 0)) s3.heap.objs.size (cellsFrom (s3.heap.objs.size + 1) scope.names (cloFrom X.env.cells scope.names [])) fp
  have pt := ht s3 (upd H2 D (SetK X.prog X.w D (fun _ => false) 0)) s3.heap.objs.size (cellsFrom (s3.heap.objs.size + 1) scope.names (cloFrom X.env.cells scope.names [])) fp
  have pe := he s3 (upd H2 D (SetK X.prog X.w D (fun _ => false) 0)) s3.heap.objs.size (cellsFrom (s3.heap.objs.size + 1) scope.names (cloFrom X.env.cells scope.names [])) fp
  show codeAny _ _ (.compStart (.SetComp elt [⟨tg, iter, ifs, 0⟩] scope pos) 0 (.ref it) (.ref D) (compEnvC scope (cellsFrom (s3.heap.objs.size + 1) scope.names (cloFrom X.env.cells scope.names [])) s3.heap.objs.size X.env)) (compPost (model X.prog X.w) X.A X.xe use Qf (.ref D) s3.heap.objs.size) { s3 with heap := pushCells (s3.heap.push { cls := .type "dict", data := .dict #[] }) scope.names }
  have nfp : ∀ b ∈ fp, (upd H2 D (SetK X.prog X.w D (fun _ => false) 0)) b = none := fun b hb => (f3 b hb).1.1
  generalize hce : compEnvC scope (cellsFrom (s3.heap.objs.size + 1) scope.names (cloFrom X.env.cells scope.names [])) s3.heap.objs.size X.env = ce at I4 pg pt pe ⊢
  have cL : ce.locals = s3.heap.objs.size := by subst hce; rfl
  generalize hH3 : upd H2 D (SetK X.prog X.w D (fun _ => false) 0) = H3 at I3 I4 pg pt pe w0 nfp f3
  generalize hs4 : ({ s3 with heap := pushCells (s3.heap.push { cls := .type "dict", data := .dict #[] }) scope.names } : Shared) = s4 at I4 ⊢
  have st4 : tn 0 s4.heap := T.keep _ _ _ st3 fun b _ o e => by rw [← hs4]; exact pushCells_keeps _ _ _ _ (Heap.get?_push_of_some _ e)
  have stat : ∀ {σ' : L2.St} {H' : Hp} {s' : Shared}, Inv (X.blk s3 H3 scope ce fp) [] σ' H' s' → (∀ b ∈ fp, H' b = none) → ∀ b ∈ fp, FpOk (X.blk s3 H3 scope ce fp) [] H' b := fun {σ' H' s'} I' hn b hb =>
    ⟨hn b hb, (I'.ok.exf b hb).1, I'.ok.exfs b hb, .inl hb, fun x c e => (I'.ok.exf b hb).2 x c e, fun p hp => absurd (show p ∈ ([] : List (Addr × Obj)) ++ [] from hp) (by simp)⟩
  have loop : codeAny (model X.prog X.w) X.A (.compLoop (.SetComp elt [⟨tg, iter, ifs, 0⟩] scope pos) 0 (.ref it) (.ref D) ce) (compPost (model X.prog X.w) X.A X.xe use Qf (.ref D) s3.heap.objs.size) s4 := by
    refine compLoopS_any (fun n s' => ∃ i H', Inv (X.blk s3 H3 scope ce fp) [] (wipe σ (own.map (·.2))) H' s' ∧ tn i s'.heap ∧ (∀ b ∈ fp, H' b = none) ∧ W i n H') ?_ m0 ⟨0, H3, I4, st4, nfp, w0⟩
    rintro n s5 ⟨i, H5, I5, st5, n5, w5⟩
    rcases turn i n H5 w5 with ⟨stop, qq⟩ | ⟨go, Nx, hNx, step⟩
    · have td := T.done (X.blk s3 H3 scope ce fp) rfl rfl rfl hc i [] s5 _ H5 (fun _ _ => False) I5 (stat I5 n5) st5 stop
      refine thnF td fun r s6 ⟨hr, I6⟩ => ?_
      subst hr
      -- back in the def's context
      have I7 : Inv X pins σ H5 s6 := I3.call' (ch := fp) I6.os I6.base I6.hok I6.bare fun b hb => ⟨(f3 b hb).1.2.2.2.1, (f3 b hb).1.2.1, (f3 b hb).1.2.2.2.2.1, (f3 b hb).1.2.2.2.2.2⟩
      have nC : H5 s3.heap.objs.size = none := by
        have z : H5 ce.locals = none := I6.free
        rw [cL] at z
        exact z
      obtain ⟨m, hn, _⟩ := I6.loc
      have hn : s6.heap.Ns ce.locals m := hn
      rw [cL] at hn
      exact hRR D s3.heap.objs.size s6 m H5 I7 qq hn (I3.fpOk (Nat.le_refl _) nC)
    · have ti := T.item (X.blk s3 H3 scope ce fp) rfl rfl rfl hc i [] s5 _ H5 (fun _ _ => False) I5 (stat I5 n5) st5 go
      refine thnF ti fun r s6 ⟨u, hr, h6⟩ => ?_
      subst hr
      refine thnF h6 fun _ s7 ⟨x, H7, I7, r7, y7, st7, n7⟩ => ?_
      have I7' := I7.pinned (stat I7 n7) (T.obj _ _ st7)
      refine thnF (pg.run _ s7 _ H7 x u _ I7' r7 (step x H7 y7)) fun _ s8 ⟨σ8, H8, I8, hw8, q8⟩ => ?_
      refine thnF (pt.run _ s8 σ8 H8 _ I8 q8) fun b s9 ⟨H9, I9, q9⟩ => ?_
      -- the turn's end
      have fin : ∀ {s' : Shared} {H' : Hp}, Inv (X.blk s3 H3 scope ce fp) ([] ++ pinsAt fp s7.heap) σ8 H' s' → Nx H' → ∃ m, m < n ∧ ∃ i H', Inv (X.blk s3 H3 scope ce fp) [] (wipe σ (own.map (·.2))) H' s' ∧ tn i s'.heap ∧ (∀ b ∈ fp, H' b = none) ∧ W i m H' := fun {s' H'} I' nx => by
        obtain ⟨m', hm, w'⟩ := hNx H' nx
        have pin' : ∀ b ∈ fp, ∀ o, s7.heap.get? b = some o → s'.heap.get? b = some o ∧ H' b = none := fun b hb o e =>
          let z := I'.pin (b, o) (List.mem_append_right _ (List.mem_append_right _ (mem_pinsAt hb e)))
          ⟨z.1, z.2.1⟩
        have hl : (wipe σ (own.map (·.2))).length = σ8.length := by rw [← hw8, wipe_length]
        refine ⟨m', hm, i + 1, H', (I'.unpinned (pins := [])).weak hl (fun j v e => ?_), T.keep _ _ _ st7 fun b hb o e => (pin' b hb o e).1, fun b hb => ?_, w'⟩
        · rw [← hw8] at e
          exact (wipe_some e).1
        · obtain ⟨o, e, _⟩ := T.obj _ _ st7 b hb
          exact (pin' b hb o e).2
      cases b with
      | false =>
        simp only [Bool.false_eq_true, if_false] at q9 ⊢
        exact fin I9 q9
      | true =>
        simp only [if_true] at q9 ⊢
        refine thnF (pe.run _ s9 σ8 H9 _ I9 q9) fun z s10 ⟨yv, H10, I10, r10, cb, S0, n0, ey, hD10, hz10, nx⟩ => ?_
        subst ey
        exact addSk_ok (X := X.blk s3 H3 scope ce fp) I10 hD10 hz10 r10 fun s11 I11 => fin I11 nx
  exact codeAny_compStart_set loop (T.self X.A 0 _ _ _ st4 loop)
/-- as a value -/
theorem pe_sk {elt tg iter : Expr} {ifs : List Expr} {scope : Scope} {own : List (PySem.Str × Nat)} {pos : Pos} {wi : TI} {g : TG} {tt : TT} {te : TE} (hc : X.calm = true) (hN : X.N.Nodup) (hi : PI X tg iter wi) (ok : BlkOk X.N X.env.scope scope own)
    (hg : ∀ (s : Shared) (H : Hp) (C : Addr) (cl : List (PySem.Str × Addr)) (fp : List Addr), PG (X.blk s H scope (compEnvC scope cl C X.env) fp) tg g) (ht : ∀ (s : Shared) (H : Hp) (C : Addr) (cl : List (PySem.Str × Addr)) (fp : List Addr), PTs (X.blk s H scope (compEnvC scope cl C X.env) fp) ifs tt)
    (he : ∀ (s : Shared) (H : Hp) (C : Addr) (cl : List (PySem.Str × Addr)) (fp : List Addr), PE (X.blk s H scope (compEnvC scope cl C X.env) fp) elt te) (hs : ∀ x, foldedSetIterable iter X.env x = pure x := by intro _; rfl) :
    PE X (.SetComp elt [⟨tg, iter, ifs, 0⟩] scope pos) (tSk X.prog X.w wi g tt te (own.map (·.2))) := by
  refine ⟨fun pins s σ H Q I h => ?_⟩
  rw [eval_SetComp]
  refine sk_core hc hN I hi ok hg ht he hs h fun D C s' m H' I' q hn f => ⟨m, hn, fun h'' sb => ?_⟩
  obtain ⟨f0, f1, f2, f3, f4, f5⟩ := f
  exact ⟨.ref D, H', I'.turned (t' := s'.toks) (fun b o hb e => (sb.2 b hb).trans e) f0 f1 f3 f4 f5, rfl, q⟩
end
section
variable {X : Cx} {ca : Nat → Addr} {E : XK} {F : Fns}
def turnS (F : Fns) (e : IE) (t : IT) (ρ : Env) (n : Nat) (x : D) (S2 : Store) : Out Unit := match bindT t x (wipeE ρ (slotsT t)) with
      | some ρ' => (evE F e ρ' S2).bind fun y S3 => putS n y S3
      | none => .bad
theorem sc_read {ie : IE} {t : IT} {it : II} {σ : L2.St} {H : Hp} {Q : VK} (h : tE (gX X ca) E F (.sc ie t it) σ H Q) :
    tSk X.prog X.w (tI (gX X ca) E F t it) (gB (gX X ca) t) (tC (gX X ca) E0 F .none) (tE (gX X ca) E0 F ie) (slotsT t) σ H Q := by
  obtain ⟨μ, ρ, S, r, sl, p⟩ := h
  have p : Post _ E ((evI F it ρ S).bind fun p S1 => (loopO p.2 (turnS F ie t ρ S1.length) p.1 (S1 ++ [.set []])).bind fun _ S5 => .ok (D.loc S1.length) S5) μ H _ := p
  refine ⟨μ, ρ, S, r, sl, p.bind.imp ?_⟩
  intro ps S1 μ1 H1 e1 r1 p1 J ok Dn hD
  obtain ⟨items, src⟩ := ps
  have p1 : Post _ E ((loopO src (turnS F ie t ρ S1.length) items (S1 ++ [.set []])).bind fun _ S5 => .ok (D.loc S1.length) S5) μ1 H1 _ := p1
  have eK : SetK X.prog X.w Dn (fun _ => false) 0 = SetK X.prog X.w Dn (fun k => hasK k []) ([] : List Key).length := rfl
  rw [eK]
  have e0 : Ext X.K μ1 (μ1 ++ [Dn]) H1 (upd H1 Dn (SetK X.prog X.w Dn (fun k => hasK k []) ([] : List Key).length)) := Ext.new hD
  have r0 : Rel (gX X ca) (μ1 ++ [Dn]) (S1 ++ [.set []]) (upd H1 Dn (SetK X.prog X.w Dn (fun k => hasK k []) ([] : List Key).length)) := r1.new hD ⟨upd_same, List.nodup_nil⟩
  have hn0 : (μ1 ++ [Dn])[S1.length]? = some Dn := by rw [← r1.len]; simp
  refine ⟨fun i m H => m = items.length - i ∧ ∃ μ' S', Ext X.K (μ1 ++ [Dn]) μ' (upd H1 Dn (SetK X.prog X.w Dn (fun k => hasK k []) ([] : List Key).length)) H ∧ Rel (gX X ca) μ' S' H ∧
    Post (gX X ca) E ((loopO src (turnS F ie t ρ S1.length) (items.drop i) S').bind fun _ S5 => .ok (D.loc S1.length) S5) μ' H fun d _ μ' H' => ∀ v, Rep X.K μ' H' d v → Q v H',
    ⟨items.length, by simp, μ1 ++ [Dn], S1 ++ [.set []], Ext.refl, r0, by rw [List.drop_zero]; exact Post.pre e0 p1⟩, ?_⟩
  rintro i m H2 ⟨rfl, μ2, S2, e2, r2, p2⟩
  have hx : Ext X.K μ1 μ2 H1 H2 := e0.trans e2
  cases hd : items.drop i with
  | nil =>
    rw [hd] at p2
    have hi : items.length ≤ i := List.drop_eq_nil_iff.mp hd
    have p2 : Post _ E ((if src.ok S2 = true then Out.ok () S2 else .bad).bind fun _ S5 => .ok (D.loc S1.length) S5) μ2 H2 _ := p2
    by_cases k : src.ok S2 = true
    · rw [if_pos k] at p2
      refine .inl ⟨?_, Post.okI (show Post _ E (.ok (D.loc S1.length) S2) μ2 H2 _ from p2) r2 _ ⟨Dn, e2.at_ hn0, rfl⟩⟩
      exact ok.stop μ2 S2 H2 i hx r2 k hi
    · rw [if_neg k] at p2
      exact p2.elim
  | cons x xs =>
    rw [hd] at p2
    have hi : i < items.length := by
      have : (items.drop i).length ≠ 0 := by rw [hd]; simp
      rw [List.length_drop] at this
      omega
    have hxi : items[i]? = some x := by
      have : (items.drop i)[0]? = some x := by rw [hd]; rfl
      simpa using this
    have hdx : items.drop (i + 1) = xs := by
      rw [← List.drop_drop, hd] <;> rfl
    have p2 : Post _ E ((if src.ok S2 = true then (match turnS F ie t ρ S1.length x S2 with | .ok _ S' => loopO src (turnS F ie t ρ S1.length) xs S' | _ => .bad) else .bad).bind fun _ S5 => .ok (D.loc S1.length) S5) μ2 H2 _ := p2
    by_cases k : src.ok S2 = true
    · rw [if_pos k] at p2
      obtain ⟨hgo, hyl⟩ := ok.go i x μ2 S2 H2 hx r2 k hxi
      refine .inr ⟨hgo, fun H' => ∃ μ' S', Ext X.K (μ1 ++ [Dn]) μ' (upd H1 Dn (SetK X.prog X.w Dn (fun k => hasK k []) ([] : List Key).length)) H' ∧ Rel (gX X ca) μ' S' H' ∧
        Post (gX X ca) E ((loopO src (turnS F ie t ρ S1.length) xs S').bind fun _ S5 => .ok (D.loc S1.length) S5) μ' H' fun d _ μ' H' => ∀ v, Rep X.K μ' H' d v → Q v H',
        fun H' q => ⟨items.length - (i + 1), by omega, rfl, by rw [hdx]; exact q⟩, fun v H3 y => ?_⟩
      obtain ⟨e3, r3, hv⟩ := hyl v H3 y
      cases hb : bindT t x (wipeE ρ (slotsT t)) with
      | none =>
        have ht : turnS F ie t ρ S1.length x S2 = .bad := by unfold turnS; rw [hb]
        rw [ht] at p2
        exact p2.elim
      | some ρ' =>
        refine ⟨μ2, wipeE ρ (slotsT t), S2, x, ρ', r3, (wipe_slots ((((sl.mono e1).mono hx)).mono e3) _), hv, hb, fun σ2 s2 l2 k2 => ⟨wipe_same (by rw [l2, wipe_length]) k2, ?_⟩⟩
        have ht : turnS F ie t ρ S1.length x S2 = (evE F ie ρ' S2).bind fun y S3 => putS S1.length y S3 := by unfold turnS; rw [hb]
        rw [ht] at p2
        refine ⟨μ2, ρ', S2, r3, s2, ?_⟩
        refine Post.anyE (a := true) (S' := S2) rfl fun μ4 H4 e4 r4 => ?_
        refine iteT ?_
        cases hk : evE F ie ρ' S2 with
        | ok dk S3 =>
          rw [hk] at p2
          refine ⟨μ4, ρ', S2, r4, s2.mono e4, Post.anyE hk fun μ5 H5 e5 r5 wk hwk => ?_⟩
          have p2 : Post _ E ((match putS S1.length dk S3 with | .ok _ S' => loopO src (turnS F ie t ρ S1.length) xs S' | _ => .bad).bind fun _ S5 => .ok (D.loc S1.length) S5) μ2 H2 _ := p2
          have hn7 : μ5[S1.length]? = some Dn := (e4.trans e5).at_ (e2.at_ hn0)
          cases hq : D.key? dk with
          | none =>
            have z : putS S1.length dk S3 = .bad := by unfold putS; rw [hq]
            rw [z] at p2
            exact p2.elim
          | some q =>
            obtain rfl : wk = kV q := key_rep hq hwk
            cases hc : S3[S1.length]? with
            | none =>
              have z : putS S1.length dk S3 = .bad := by unfold putS; rw [hq, hc]
              rw [z] at p2
              exact p2.elim
            | some c =>
              cases c with
              | set ks =>
                have z : putS S1.length dk S3 = if ks.length + 1 < 1000 then .ok () (S3.set S1.length (.set (addK q ks))) else .bad := by unfold putS; rw [hq, hc]
                rw [z] at p2
                by_cases cz : ks.length + 1 < 1000
                · rw [if_pos cz] at p2
                  obtain ⟨h1, h2⟩ := r5.at_ _ Dn _ hn7 hc
                  have n1 : ∀ q u, H5 Dn ≠ some (.frz q u) := fun q u e => by rw [h1] at e; cases e
                  have eS : SetK X.prog X.w Dn (fun j => (hasK j ks || decide (j = q))) (if hasK q ks = true then ks.length else ks.length + 1) = SetK X.prog X.w Dn (fun j => hasK j (addK q ks)) (addK q ks).length := by
                    rw [addK_len]
                    congr 1
                    funext j
                    rw [addK_S]
                  have e8 : Ext X.K μ5 μ5 H5 (upd H5 Dn (SetK X.prog X.w Dn (fun j => hasK j (addK q ks)) (addK q ks).length)) := Ext.put (List.mem_of_getElem? hn7) n1
                  have r8 := r5.put (c := .set (addK q ks)) hn7 n1 ⟨upd_same, addK_nd h2⟩
                  refine ⟨q, _, _, rfl, h1, by have : scanBound = 4096 := rfl; omega, ?_⟩
                  rw [eS]
                  exact ⟨μ5, _, e2.trans ((e3.trans (e4.trans e5)).trans e8), r8, Post.pre ((e3.trans (e4.trans e5)).trans e8) p2⟩
                · rw [if_neg cz] at p2
                  exact p2.elim
              | _ =>
                have z : putS S1.length dk S3 = .bad := by unfold putS; rw [hq, hc]
                rw [z] at p2
                exact p2.elim
        | ex cc fs S3 => rw [hk] at p2; exact p2.elim
        | bad => rw [hk] at p2; exact p2.elim
    · rw [if_neg k] at p2
      exact p2.elim
section
variable {elt tg iter : Expr} {scope : Scope} {own : List (Str × Nat)} {pos : Pos} {ie : IE} {t : IT} {it : II}
theorem e_sc (hc : X.calm = true) (hN : X.N.Nodup) (hi : PI X tg iter (tI (gX X ca) E F t it)) (ok : BlkOk X.N X.env.scope scope own) (ho : own.map (·.2) = slotsT t)
    (hg : ∀ (s : Shared) (H : Hp) (C : Addr) (cl : List (Str × Addr)) (fp : List Addr), PG (X.blk s H scope (compEnvC scope cl C X.env) fp) tg (gB (gX X ca) t))
    (he : ∀ (s : Shared) (H : Hp) (C : Addr) (cl : List (Str × Addr)) (fp : List Addr), PE (X.blk s H scope (compEnvC scope cl C X.env) fp) elt (tE (gX X ca) E0 F ie)) (hs : ∀ x, foldedSetIterable iter X.env x = pure x) :
    PE X (.SetComp elt [⟨tg, iter, [], 0⟩] scope pos) (tE (gX X ca) E F (.sc ie t it)) := by
  refine PE.imp (pe_sk (tt := tC (gX X ca) E0 F .none) hc hN hi ok hg (fun s H C cl fp => c_nil (X := X.blk s H scope (compEnvC scope cl C X.env) fp)) he hs) fun σ H Q q => ?_
  rw [ho]
  exact sc_read q
end
/-! ### min, max of one thing -/
theorem minD_strs (x : Str) : ∀ l : List Str, PySem.W.minD (.str x) (l.map PyData.str) = .str (l.foldl (fun a y => if ltStr y a then y else a) x) := by
  intro l
  unfold PySem.W.minD
  induction l generalizing x with
  | nil => rfl
  | cons y r ih =>
    rw [List.map_cons, List.foldl_cons, List.foldl_cons]
    have e : (if PySem.W.dataLt (.str y) (.str x) = true then PyData.str y else PyData.str x) = .str (if ltStr y x then y else x) := by
      rw [PySem.W.dataLt_str]
      unfold ltStr
      split <;> rfl
    rw [e, ih]
theorem reads_ints {h : Heap} : ∀ {ns : List Int} {us : List Value}, Vals (ns.map V.int) us → ∃ as, ReadsAll h us (ns.map PyData.int) as
  | [], _, r => by cases r; exact ⟨_, .nil⟩
  | n :: ns, _, r => by
    cases r with
    | cons r1 r2 =>
      obtain ⟨t, rfl⟩ := r1
      obtain ⟨as, q⟩ := reads_ints (ns := ns) r2
      exact ⟨_, .cons (.int n t) q⟩
theorem reads_strs {h : Heap} : ∀ {ns : List Str} {us : List Value}, Vals (ns.map V.str) us → ∃ as, ReadsAll h us (ns.map PyData.str) as
  | [], _, r => by cases r; exact ⟨_, .nil⟩
  | n :: ns, _, r => by
    cases r with
    | cons r1 r2 =>
      obtain ⟨t, rfl⟩ := r1
      obtain ⟨as, q⟩ := reads_strs (ns := ns) r2
      exact ⟨_, .cons (.str n t) q⟩
theorem alike_ints (l : List Int) : PySem.W.AlikeAll (l.map PyData.int) := ⟨fun x hx y hy => by
  obtain ⟨i, _, rfl⟩ := List.mem_map.mp hx
  obtain ⟨j, _, rfl⟩ := List.mem_map.mp hy
  rfl, fun x hx => by
  obtain ⟨i, _, rfl⟩ := List.mem_map.mp hx
  exact fun e => nomatch e⟩
theorem alike_strs (l : List Str) : PySem.W.AlikeAll (l.map PyData.str) := ⟨fun x hx y hy => by
  obtain ⟨i, _, rfl⟩ := List.mem_map.mp hx
  obtain ⟨j, _, rfl⟩ := List.mem_map.mp hy
  rfl, fun x hx => by
  obtain ⟨i, _, rfl⟩ := List.mem_map.mp hx
  exact fun e => nomatch e⟩
theorem depth_ints : ∀ l : List Int, PyData.depthAll (l.map PyData.int) = 0
  | [] => rfl
  | x :: l => by
    show max 0 (PyData.depthAll (l.map PyData.int)) = 0
    rw [depth_ints l]
    rfl
theorem depth_strs : ∀ l : List Str, PyData.depthAll (l.map PyData.str) = 0
  | [] => rfl
  | x :: l => by
    show max 0 (PyData.depthAll (l.map PyData.str)) = 0
    rw [depth_strs l]
    rfl
section
variable {pins : List (Addr × Obj)} {s : Shared} {σ : L2.St} {H : Hp} {a : Addr} {vs : List V} {y : PyData} {ys : List PyData} {Q : Value → Shared → Prop}
theorem min_seq (hc : X.calm = true) (I : Inv X pins σ H s) (hs : SqL X.K H a vs ∨ SqT X.K H a vs) (hv : ∀ us, Vals vs us → ∃ as, ReadsAll s.heap us (y :: ys) as) (ha : PySem.W.AlikeAll (y :: ys)) (hu : X.A.units + 1 + PyData.depthAll (y :: ys) < cLine)
    (q : ∀ v h' tk bs, Reads h' v (PySem.W.minD y ys) bs → (∀ b o, s.heap.get? b = some o → h'.get? b = some o) → Q v { s with heap := h', toks := tk }) : wpAny (model X.prog X.w) X.A (call (.builtin "min") [.ref a]) Q X.xe s := by
  rcases hs with hs | hs
  · obtain ⟨its, rv, hl, _⟩ := I.list hs
    obtain ⟨as, ra⟩ := hv its rv
    exact PySem.W.min_list_data (I.ok.hd hc) hl.isList (by simpa using ra) ha hu fun i v h' tk bs _ r k => q v h' tk bs r k
  · obtain ⟨its, rv, hl, _⟩ := I.tuple hs
    obtain ⟨as, ra⟩ := hv its rv
    exact PySem.W.min_tuple_data (I.ok.hd hc) hl (by simpa using ra) ha hu fun i v h' tk bs _ r k => q v h' tk bs r k
theorem max_seq (hc : X.calm = true) (I : Inv X pins σ H s) (hs : SqL X.K H a vs ∨ SqT X.K H a vs) (hv : ∀ us, Vals vs us → ∃ as, ReadsAll s.heap us (y :: ys) as) (ha : PySem.W.AlikeAll (y :: ys)) (hu : X.A.units + 1 + PyData.depthAll (y :: ys) < cLine)
    (q : ∀ v h' tk bs, Reads h' v (PySem.W.maxD y ys) bs → (∀ b o, s.heap.get? b = some o → h'.get? b = some o) → Q v { s with heap := h', toks := tk }) : wpAny (model X.prog X.w) X.A (call (.builtin "max") [.ref a]) Q X.xe s := by
  rcases hs with hs | hs
  · obtain ⟨its, rv, hl, _⟩ := I.list hs
    obtain ⟨as, ra⟩ := hv its rv
    exact PySem.W.max_list_data (I.ok.hd hc) hl.isList (by simpa using ra) ha hu fun i v h' tk bs _ r k => q v h' tk bs r k
  · obtain ⟨its, rv, hl, _⟩ := I.tuple hs
    obtain ⟨as, ra⟩ := hv its rv
    exact PySem.W.max_tuple_data (I.ok.hd hc) hl (by simpa using ra) ha hu fun i v h' tk bs _ r k => q v h' tk bs r k
end
theorem b_max1 (hu : X.A.units + 100 < cLine) (hc : X.calm = true) : CallR X (.builtin "max") (rN (gX X ca) E (bfD .max1)) := by
  intro pins s σ H xs us Q I rx h
  obtain ⟨μ, S, ds, r, hx, p⟩ := h
  match ds, p with
  | [], p => exact p.elim
  | _ :: _ :: _, p => exact p.elim
  | [d], p =>
    obtain ⟨x, rfl, h1⟩ := args1 hx
    obtain ⟨u, rfl, rv⟩ := vals1 rx
    obtain ⟨z, ez, q⟩ := Post.ok? (show Post _ E (ok? (((seqOf S d).bind ints?).bind fun l => (maxI l).map D.int) S) μ H _ from p) r
    obtain ⟨l, el, ez⟩ := Option.bind_eq_some_iff.mp ez
    obtain ⟨ys, ey, el⟩ := Option.bind_eq_some_iff.mp el
    obtain ⟨a, vs, rfl, h2, h3⟩ := r.seqOf h1 ey
    cases rv
    rw [ints_rep el h3] at h2
    cases l with
    | nil => cases ez
    | cons n ns =>
      cases ez
      refine max_seq (y := .int n) (ys := ns.map PyData.int) hc I h2 (fun us r => reads_ints (ns := n :: ns) r) (alike_ints (n :: ns)) (by rw [show PyData.int n :: ns.map PyData.int = (n :: ns).map PyData.int from rfl, depth_ints]; omega) fun v h' tk bs rd k => ?_
      rw [PySem.W.maxD_ints] at rd
      obtain ⟨t, rfl, _⟩ := reads_int_inv rd
      exact ⟨.int _, H, I.kept k, ⟨t, rfl⟩, q _ rfl⟩
theorem b_min1 (hu : X.A.units + 100 < cLine) (hc : X.calm = true) : CallR X (.builtin "min") (rN (gX X ca) E (bfD .min1)) := by
  intro pins s σ H xs us Q I rx h
  obtain ⟨μ, S, ds, r, hx, p⟩ := h
  match ds, p with
  | [], p => exact p.elim
  | _ :: _ :: _, p => exact p.elim
  | [d], p =>
    obtain ⟨x, rfl, h1⟩ := args1 hx
    obtain ⟨u, rfl, rv⟩ := vals1 rx
    have p : Post _ E (match seqOf S d with
      | none => .bad
      | some xs => match ints? xs, strs? xs with
        | some l, none => ok? ((minI l).map D.int) S
        | none, some l => ok? ((minS l).map D.str) S
        | _, _ => .bad) μ H _ := p
    cases hd : seqOf S d with
    | none => rw [hd] at p; exact p.elim
    | some xs =>
      rw [hd] at p
      obtain ⟨a, vs, rfl, h2, h3⟩ := r.seqOf h1 hd
      cases rv
      have p : Post _ E (match ints? xs, strs? xs with
        | some l, none => ok? ((minI l).map D.int) S
        | none, some l => ok? ((minS l).map D.str) S
        | _, _ => .bad) μ H _ := p
      cases hi : ints? xs with
      | some l =>
        cases hs : strs? xs with
        | some _ => rw [hi, hs] at p; exact p.elim
        | none =>
          rw [hi, hs] at p
          obtain ⟨z, ez, q⟩ := Post.ok? (show Post _ E (ok? ((minI l).map D.int) S) μ H _ from p) r
          rw [ints_rep hi h3] at h2
          cases l with
          | nil => cases ez
          | cons n ns =>
            cases ez
            refine min_seq (y := .int n) (ys := ns.map PyData.int) hc I h2 (fun us r => reads_ints (ns := n :: ns) r) (alike_ints (n :: ns)) (by rw [show PyData.int n :: ns.map PyData.int = (n :: ns).map PyData.int from rfl, depth_ints]; omega) fun v h' tk bs rd k => ?_
            rw [PySem.W.minD_ints] at rd
            obtain ⟨t, rfl, _⟩ := reads_int_inv rd
            exact ⟨.int _, H, I.kept k, ⟨t, rfl⟩, q _ rfl⟩
      | none =>
        cases hs : strs? xs with
        | none => rw [hi, hs] at p; exact p.elim
        | some l =>
          rw [hi, hs] at p
          obtain ⟨z, ez, q⟩ := Post.ok? (show Post _ E (ok? ((minS l).map D.str) S) μ H _ from p) r
          rw [strs_rep hs h3] at h2
          cases l with
          | nil => cases ez
          | cons n ns =>
            cases ez
            refine min_seq (y := .str n) (ys := ns.map PyData.str) hc I h2 (fun us r => reads_strs (ns := n :: ns) r) (alike_strs (n :: ns)) (by rw [show PyData.str n :: ns.map PyData.str = (n :: ns).map PyData.str from rfl, depth_strs]; omega) fun v h' tk bs rd k => ?_
            rw [minD_strs] at rd
            obtain ⟨t, rfl, _⟩ := reads_str_inv rd
            exact ⟨.str _, H, I.kept k, ⟨t, rfl⟩, q _ rfl⟩
end
end Iv

set_option maxRecDepth 100000
/-! IvK: raise: an own exception class over ValueError, its __init__. -/
namespace Iv
open PySem PySem.Spec PyProof.Rows L2
section
variable {X : Cx}
/-- B.__init__(self, ..), B an own class that has ValueError's -/
theorem pe_veown {b : Str} {B : Addr} {e : Expr} {es : List Expr} {ta : TA} {p1 p2 pos : Pos} (hg : Gl X b) (hm : X.mg b = some (.ref B)) (hdb : (b == ("__debug__" : Str)) = false) (hga : PySem.W.specialIn X.K (.ref B) "__getattribute__" = some (some (.builtin "type.__getattribute__")))
    (hr : PySem.W.readsIn X.K B (.type "type") = true) (vV : PySem.W.findCls X.K (.ref B) (.type "type") "__init__" = some (.val (.builtin "ValueError.__init__"))) (ha : PA X (e :: es) ta)
    (hline : (p2.endLine == pos.line) = true) (hfew : methodCallForm ((e :: es).length + ([] : List Keyword).length) (backTo pos (starEach (e :: es) X.env)) (backToKw pos (keywordEach [] X.env)) = true)
    (he : starEach (e :: es) X.env = (false, eval e X.env) :: starEach es X.env := by rfl) (hpl : (backTo pos (starEach es X.env)).any (·.1) = false := by rfl) :
    PE X (.Call (.Attribute (.Name b p1) "__init__" p2) (e :: es) [] pos) (tVeI X.K ta) := by
  refine ⟨fun pins s σ H Q I h => ?_⟩
  rw [arm_eval_Call, show attributeBase (.Name b p1) "__init__" X.env (eval (.Name b p1) X.env) = eval (.Name b p1) X.env from rfl]
  refine wpAny_bind (ld_glob I hg hm ?_ hdb)
  refine wpAny_bind (wpAny_standAt ?_)
  have hpos : methodCallPos true (.Name b p1) X.env p2 pos = pure pos := by unfold methodCallPos; simp [hline]
  unfold methodCall
  rw [hfew]
  refine wpAny_bind (wpAny_holding (PySem.W.method_cls I.kIn hga (PySem.W.cls_value I.kIn hr vV (by decide +kernel) ?_)))
  refine wpAny_bind (wpAny_of_eq hpos ?_)
  show wpAny _ _ (callWith pos (Value.builtin "ValueError.__init__") [] (backTo pos (starEach (e :: es) X.env)) []) _ _ _
  refine PyProof.Rows.callWith_method1 (thn (ha.run pos pins _ σ H _ (I.tok _) h) fun us s1 ⟨vs, H1, I1, r1, a, C, ws, ev, hl, T, ea, q⟩ => ?_) he hpl
  subst ev
  cases r1 with
  | @cons _ u0 _ ur ra rw' =>
    obtain rfl : u0 = Value.ref a := ra
    have hlen : ur.length ≤ sizeLine := by
      rw [← Paired.length rw', sizeLine_eq]
      omega
    exact oinit_ok T I1 ea hlen fun s' J => ⟨.non, H1, J, rfl, q⟩
end
/-! ### what the text of an error shows -/
/-- a part that gives a text of no great length -/
def Fine (t : TE) (σ : L2.St) (H : Hp) : Prop := ∀ Q : VK, (∀ y : Str, y.length ≤ 5000 → Q (.str y) H) → t σ H Q
theorem str_app (a b : Str) : (a ++ b).length = a.length + b.length := Array.size_append ..
theorem fine_js {σ : L2.St} {H : Hp} : ∀ {ts : List TE} {acc : Str} {Q : Str → Hp → Prop}, (∀ t ∈ ts, Fine t σ H) → acc.length + 5000 * ts.length ≤ sizeLine → (∀ out, Q out H) → tJs ts acc σ H Q
  | [], acc, Q, _, _, q => q acc
  | t :: ts, acc, Q, h, hl, q => by
    rw [List.length_cons] at hl
    refine h t List.mem_cons_self _ fun y hy => ⟨y, rfl, ?_, fine_js (fun t ht => h t (List.mem_cons_of_mem _ ht)) ?_ q⟩ <;> rw [str_app] <;> omega
theorem fine_fmt {te : TE} {σ : L2.St} {H : Hp} {v : V} {d : D} (h : ∀ Q : VK, Q v H → te σ H Q) (hd : fmtD d = true) {K : PySem.W.Frag} {μ : List Addr} (hv : Rep K μ H d v) : Fine (tFmt te) σ H := fun Q q => by
  refine h _ ?_
  cases d with
  | str y =>
    have hy : y.length ≤ 5000 := of_decide_eq_true hd
    exact .inl ⟨y, hv, by rw [sizeLine_eq]; omega, q y hy⟩
  | int i =>
    obtain ⟨h1, h2⟩ := Bool.and_eq_true_iff.mp (show (decide (i.natAbs.log2 < 1920) && decide ((Str.ofString (toString i)).length ≤ 5000)) = true from hd)
    exact .inr ⟨i, hv, of_decide_eq_true h1, q _ (of_decide_eq_true h2)⟩
  | _ => cases hd
/-! ### the fields, one behind another -/
def finC (H : Hp) (a C dx : Addr) (fs : List (Str × V)) : Hp := upd (upd H a (exo a C (some dx))) dx (exd dx fs)
theorem finC_first {H : Hp} {a C dx : Addr} {fs : List (Str × V)} (n : dx ≠ a) : upd (upd H dx (exd dx fs)) a (exo a C (some dx)) = finC H a C dx fs := by
  funext b
  unfold finC
  by_cases h1 : b = a
  · subst h1
    rw [upd_same, upd_ne (Ne.symm n), upd_same]
  · rw [upd_ne h1]
    by_cases h2 : b = dx
    · subst h2
      rw [upd_same, upd_same]
    · rw [upd_ne h2, upd_ne h2, upd_ne h1]
theorem finC_next {H : Hp} {a C dx : Addr} {fs gs : List (Str × V)} : upd (finC H a C dx fs) dx (exd dx gs) = finC H a C dx gs := upd_upd
theorem finC_a {H : Hp} {a C dx : Addr} {fs : List (Str × V)} (n : dx ≠ a) : finC H a C dx fs a = some (exo a C (some dx)) := by
  unfold finC
  rw [upd_ne (Ne.symm n), upd_same]
theorem finC_d {H : Hp} {a C dx : Addr} {fs : List (Str × V)} : finC H a C dx fs dx = some (exd dx fs) := upd_same
/-- the error let go: its dict stands -/
theorem finC_end {H : Hp} {a C dx : Addr} {fs : List (Str × V)} (n : dx ≠ a) (ha : H a = none) : upd (L2.del (finC (upd H a (exo a C none)) a C dx fs) a) dx (.xd fs) = upd H dx (.xd fs) := by
  funext b
  by_cases h2 : b = dx
  · subst h2
    rw [upd_same, upd_same]
  · rw [upd_ne h2, upd_ne h2]
    by_cases h1 : b = a
    · subst h1
      rw [del_same, ha]
    · rw [del_ne h1]
      unfold finC
      rw [upd_ne h2, upd_ne h1, upd_ne h1]
/-- self.f = f, .., from slot j on -/
def chkFs (N : List Str) : Nat → List Str → List Stmt → Bool
  | _, [], s => match s with
    | [] => true
    | _ :: _ => false
  | j, f :: fs, s => match s with
    | .Assign [.Attribute (.Name o _) g _] (.Name x _) _ :: r => decide (N[0]? = some o) && decide (g = f) && decide (N[j]? = some x) && chkFs N (j + 1) fs r
    | _ => false
section
variable {X : Cx} {C : Addr}
/-- the names of an __init__ -/
structure INm (X : Cx) : Prop where
  vis : ∀ x ∈ X.N, Vis X.env.scope x
  ok : ∀ x ∈ X.N, (x == ("__debug__" : Str)) = false ∧ (x == ("__classdict__" : Str)) = false
theorem INm.pe (O : INm X) {i : Nat} {x : Str} {p : Pos} (h : X.N[i]? = some x) : PE X (.Name x p) (tVar i) :=
  pe_var h (O.vis x (List.mem_of_getElem? h)) (O.ok x (List.mem_of_getElem? h)).1 (O.ok x (List.mem_of_getElem? h)).2
/-- the stores behind the first -/
theorem ss_fs (O : INm X) (T : OexC X.K C) : ∀ (fs : List Str) (j : Nat) (sts : List Stmt), chkFs X.N j fs sts = true → (∀ f ∈ fs, PySem.W.findIn X.K (.ref C) f = some none) →
    ∃ t, PSs X sts t ∧ ∀ (D : Ends) (σ : L2.St) (a : Addr) (us : List V), σ[0]? = some (some (.ref a)) → (∀ i y, us[i]? = some y → σ[j + i]? = some (some y)) → us.length = fs.length →
      ∀ (H : Hp) (dx : Addr) (acc : List (Str × V)), dx ≠ a → acc.length + fs.length ≤ 900 → D.nx σ (finC H a C dx ((fs.zip us).reverse ++ acc)) → t D σ (finC H a C dx acc)
  | [], j, sts, h, _ => by
    cases sts with
    | nil => exact ⟨tNext, pss_nil, fun D σ a us _ _ hu H dx acc _ _ q => by
      show D.nx σ _
      simpa using q⟩
    | cons _ _ => cases h
  | f :: fs, j, sts, h, hn => by
    cases sts with
    | nil => cases h
    | cons st r =>
      unfold chkFs at h
      split at h
      · rename_i o p1 g p2 x p3 p4 r' heq
        cases heq
        simp only [Bool.and_eq_true, decide_eq_true_eq] at h
        obtain ⟨⟨⟨h1, h2⟩, h3⟩, h5⟩ := h
        subst h2
        obtain ⟨t, ht, hq⟩ := ss_fs O T fs (j + 1) r h5 fun z hz => hn z (List.mem_cons_of_mem _ hz)
        refine ⟨_, pss_cons (ps_ost (O.pe h1) (O.pe h3) rfl) ht, fun D σ a us s0 sx hu H dx acc n hl q => ?_⟩
        cases us with
        | nil => cases hu
        | cons y us =>
          rw [List.length_cons] at hl
          have hy := sx 0 y rfl
          refine ⟨y, hy, .ref a, s0, a, C, rfl, T, hn g List.mem_cons_self, .inr ⟨dx, acc, finC_a n, finC_d, by omega, ?_⟩⟩
          rw [finC_next]
          refine hq D σ a us s0 (fun i z hz => ?_) (by simpa using hu) H dx _ n (by rw [List.length_cons]; omega) ?_
          · have := sx (i + 1) z hz
            rw [show j + 1 + i = j + (i + 1) from by omega]
            exact this
          · rw [List.zip_cons_cons, List.reverse_cons, List.append_assoc] at q
            exact q
      · cases h
/-- all of them -/
theorem ss_fs0 (O : INm X) (T : OexC X.K C) {f : Str} {fs : List Str} {sts : List Stmt} (h : chkFs X.N 1 (f :: fs) sts = true) (hn : ∀ g ∈ f :: fs, PySem.W.findIn X.K (.ref C) g = some none) :
    ∃ t, PSs X sts t ∧ ∀ (D : Ends) (σ : L2.St) (a : Addr) (us : List V), σ[0]? = some (some (.ref a)) → (∀ i y, us[i]? = some y → σ[1 + i]? = some (some y)) → us.length = (f :: fs).length → fs.length ≤ 800 →
      ∀ H : Hp, H a = some (exo a C none) → (∀ dx, H dx = none → dx ≠ a → D.nx σ (finC H a C dx ((f :: fs).zip us).reverse)) → t D σ H := by
  cases sts with
  | nil => cases h
  | cons st r =>
    unfold chkFs at h
    split at h
    · rename_i o p1 g p2 x p3 p4 r' heq
      cases heq
      simp only [Bool.and_eq_true, decide_eq_true_eq] at h
      obtain ⟨⟨⟨h1, h2⟩, h3⟩, h5⟩ := h
      subst h2
      obtain ⟨t, ht, hq⟩ := ss_fs O T fs 2 r h5 fun z hz => hn z (List.mem_cons_of_mem _ hz)
      refine ⟨_, pss_cons (ps_ost (O.pe h1) (O.pe h3) rfl) ht, fun D σ a us s0 sx hu hl H ha q => ?_⟩
      cases us with
      | nil => cases hu
      | cons y us =>
        have hy := sx 0 y rfl
        refine ⟨y, hy, .ref a, s0, a, C, rfl, T, hn g List.mem_cons_self, .inl ⟨ha, fun dx hd n => ?_⟩⟩
        rw [finC_first n]
        refine hq D σ a us s0 (fun i z hz => ?_) (by simpa using hu) H dx _ n (by rw [List.length_singleton]; omega) ?_
        · have := sx (i + 1) z hz
          rw [show 2 + i = 1 + (i + 1) from by omega]
          exact this
        · have q := q dx hd n
          rw [List.zip_cons_cons, List.reverse_cons] at q
          exact q
    · cases h
/-- the parts of the text -/
def chkPt (N : List Str) : List Expr → Bool
  | [] => true
  | .Constant (.str m) _ _ :: r => decide (m.length ≤ 1000) && chkPt N r
  | .FormattedValue (.Name x _) c none _ :: r => decide (c = -1) && ((List.range N.length).any fun i => decide (N[i + 1]? = some x)) && chkPt N r
  | _ :: _ => false
theorem pj_of (O : INm X) : ∀ {es : List Expr}, chkPt X.N es = true → ∃ ts, PJ X es ts ∧ ts.length = es.length ∧ ∀ (σ : L2.St) (H : Hp) (μ : List Addr) (us : List V) (ds : List D), (∀ i y, us[i]? = some y → σ[1 + i]? = some (some y)) → us.length + 1 = X.N.length → Reps X.K μ H ds us → xOk ds = true → ∀ t ∈ ts, Fine t σ H
  | [], _ => ⟨[], .nil, rfl, fun _ _ _ _ _ _ _ _ _ t ht => by cases ht⟩
  | e :: r, h => by
    unfold chkPt at h
    split at h
    · rename_i heq
      cases heq
    · rename_i m j p r' heq
      cases heq
      obtain ⟨h1, h2⟩ := Bool.and_eq_true_iff.mp h
      obtain ⟨ts, ht, hl, hq⟩ := pj_of O h2
      refine ⟨_, .cons pe_str ht, congrArg (· + 1) hl, fun σ H μ us ds a1 a2 a3 a4 t hm => ?_⟩
      rcases List.mem_cons.mp hm with rfl | hm
      · intro Q q
        have := of_decide_eq_true h1
        exact q m (by omega)
      · exact hq σ H μ us ds a1 a2 a3 a4 t hm
    · rename_i x p c p2 r' heq
      cases heq
      simp only [Bool.and_eq_true, decide_eq_true_eq, List.any_eq_true] at h
      obtain ⟨⟨rfl, i, hi, hx⟩, h2⟩ := h
      obtain ⟨ts, ht, hl, hq⟩ := pj_of O h2
      refine ⟨_, .cons (pe_fmt (O.pe hx)) ht, congrArg (· + 1) hl, fun σ H μ us ds a1 a2 a3 a4 t hm => ?_⟩
      rcases List.mem_cons.mp hm with rfl | hm
      · have lt := (List.getElem?_eq_some_iff.mp hx).1
        have lu : i < us.length := by omega
        have e1 : us[i]? = some us[i] := List.getElem?_eq_getElem lu
        obtain ⟨d, hd, hv⟩ := a3.getV e1
        refine fine_fmt (fun Q q => ⟨us[i], ?_, q⟩) (List.all_eq_true.mp a4 d (List.mem_of_getElem? hd)) hv
        have := a1 i _ e1
        rw [Nat.add_comm] at this
        exact this
      · exact hq σ H μ us ds a1 a2 a3 a4 t hm
    · cases h
/-- what a base class must say -/
structure BCls (K : PySem.W.Frag) (B : Addr) : Prop where
  ga : PySem.W.specialIn K (.ref B) "__getattribute__" = some (some (.builtin "type.__getattribute__"))
  rd : PySem.W.readsIn K B (.type "type") = true
  at_ : PySem.W.findCls K (.ref B) (.type "type") "__init__" = some (.val (.builtin "ValueError.__init__"))
/-- B.__init__(self, f'..') -/
def chkB (N : List Str) (sc : Scope) (b : Str) : Stmt → Bool
  | .Expr (.Call (.Attribute (.Name b' _) m ap) [.Name o _, .JoinedStr (v1 :: v2 :: r) _] [] cp) _ => (ap.endLine == cp.line) && decide (b' = b) && decide (m = "__init__") && decide (N[0]? = some o) && decide (r.length ≤ 8) && chkPt N (v1 :: v2 :: r) && decide (sc.names.lookup b = some .globalImplicit) && !(b == ("__debug__" : Str))
  | _ => false
theorem s_base (O : INm X) {b : Str} {B : Addr} (hm : X.mg b = some (.ref B)) (W : BCls X.K B) {st : Stmt} (h : chkB X.N X.env.scope b st = true) :
    ∃ t, PS X st t ∧ ∀ (N : Ends) (σ : L2.St) (H : Hp) (a C : Addr) (μ : List Addr) (us : List V) (ds : List D), σ[0]? = some (some (.ref a)) → (∀ i y, us[i]? = some y → σ[1 + i]? = some (some y)) → us.length + 1 = X.N.length → Reps X.K μ H ds us → xOk ds = true →
      OexC X.K C → H a = some (exo a C none) → N.nx σ H → t N σ H := by
  unfold chkB at h
  split at h
  · rename_i b' p1 m p2 o p3 v1 v2 r p4 p5 p6
    simp only [Bool.and_eq_true, decide_eq_true_eq, Bool.not_eq_true'] at h
    obtain ⟨⟨⟨⟨⟨⟨⟨h0, h1⟩, h2⟩, h3⟩, h4⟩, h5⟩, h6⟩, h7⟩ := h
    subst h1 h2
    obtain ⟨ts, ht, hl, hq⟩ := pj_of O h5
    have ha : PA X [.Name o p3, .JoinedStr (v1 :: v2 :: r) p4] _ := pa_cons (O.pe h3) (pa_cons (pe_joined ht) pa_nil)
    refine ⟨_, ps_expr (pe_veown h6 hm h7 W.ga W.rd W.at_ ha h0 rfl) rfl, fun N σ H a C μ us ds s0 a1 a2 a3 a4 T hC q => ?_⟩
    refine ⟨.ref a, s0, fine_js (hq σ H μ us ds a1 a2 a3 a4) ?_ fun out => ⟨a, C, [.str out], rfl, (by simp), T, hC, q⟩⟩
    rw [hl, List.length_cons, List.length_cons, sizeLine_eq]
    show 0 + _ ≤ _
    omega
  · cases h
end
/-! ### the __init__, as a def -/
def chkInit (fs : List Str) (N : List Str) (sc : Scope) (b : Str) : List Stmt → Bool
  | st :: r => chkB N sc b st && chkFs N 1 fs r && decide (N.length = fs.length + 1) && decide (fs ≠ []) && decide (fs.length ≤ 800) && N.all fun x => !(x == ("__debug__" : Str)) && !(x == ("__classdict__" : Str)) && decide (sc.names.lookup x = some .local)
  | [] => false
/-- self, the arguments: the fields stand behind it -/
def spI (K : PySem.W.Frag) (fs : List Str) : Sp := fun vs H Q _ => ∃ (a C : Addr) (us : List V) (μ : List Addr) (ds : List D), vs = .ref a :: us ∧ us.length = fs.length ∧ Reps K μ H ds us ∧ xOk ds = true ∧ OexC K C ∧ (∀ f ∈ fs, PySem.W.findIn K (.ref C) f = some none) ∧ H a = some (exo a C none) ∧
  ∀ dx, H dx = none → dx ≠ a → Q .non (finC H a C dx (fs.zip us).reverse)
section
variable {P : Program} {w : World} {K : PySem.W.Frag} {mg : Str → Option Value} {base : Heap}
theorem init_ok {CX : CXT} {x qual b : Str} {pm : Arguments} {body : List Stmt} {scope : Scope} {f B : Addr} {fd : FuncData} {fs N : List Str} (FD : FunD K x qual pm body scope [] [] f fd) (FS : FnScope N N scope) (hm : mg b = some (.ref B)) (W : BCls K B) (h : chkInit fs N scope b body = true) :
    FnOk P w K mg base CX 1 f fd N (spI K fs) := by
  cases body with
  | nil => cases h
  | cons st r =>
    unfold chkInit at h
    simp only [Bool.and_eq_true, decide_eq_true_eq, List.all_eq_true, Bool.not_eq_true'] at h
    obtain ⟨⟨⟨⟨⟨h1, h2⟩, h3⟩, h4⟩, h5⟩, h6⟩ := h
    refine FD.ok FS (fun vs H Q E q => ?_) fun cdv A outer s H vs Q E room q => ?_
    · obtain ⟨a, C, us, _, _, rfl, hu, _⟩ := q
      rw [List.length_cons, hu, h3]
    · obtain ⟨a, C, us, μ, ds, rfl, hu, hr, hx, T, hn, hC, q⟩ := q
      generalize hX : cxOf CX P w K mg base N qual scope f cdv A outer s H E = X
      have xN : X.N = N := by rw [← hX]; rfl
      have xS : X.env.scope = scope := by rw [← hX]; rfl
      have xK : X.K = K := by rw [← hX]; rfl
      have xm : X.mg = mg := by rw [← hX]; rfl
      have O : INm X := ⟨fun y hy => .inl (by rw [xS]; exact (h6 y (by rw [← xN]; exact hy)).2), fun y hy => (h6 y (by rw [← xN]; exact hy)).1⟩
      obtain ⟨t1, p1, q1⟩ := s_base O (b := b) (B := B) (by rw [xm]; exact hm) (by rw [xK]; exact W) (by rw [xN, xS]; exact h1)
      cases fs with
      | nil => exact absurd rfl h4
      | cons g gs =>
        obtain ⟨t2, p2, q2⟩ := ss_fs0 O (C := C) (by rw [xK]; exact T) (f := g) (fs := gs) (by rw [xN]; exact h2) (by rw [xK]; exact hn)
        have s0 : (start N (.ref a :: us))[0]? = some (some (.ref a)) := rfl
        have a1 : ∀ i y, us[i]? = some y → (start N (.ref a :: us))[1 + i]? = some (some y) := fun i y hy => by
          have lt := (List.getElem?_eq_some_iff.mp hy).1
          unfold L2.start
          rw [List.getElem?_append_left (by rw [List.length_map, List.length_cons]; omega), List.getElem?_map, Nat.add_comm, List.getElem?_cons_succ, hy]
          rfl
        have hl : us.length + 1 = X.N.length := by rw [xN, h3, hu]
        refine ⟨_, pss_cons p1 p2, ?_⟩
        refine q1 _ _ H a C μ us ds s0 a1 hl (by rw [xK]; exact hr) hx (by rw [xK]; exact T) hC ?_
        refine q2 _ _ a us s0 a1 hu (by rw [List.length_cons] at h5; omega) H hC fun dx hd n => ?_
        exact q dx hd n
end
end Iv

set_option maxRecDepth 100000
/-! IvL: raise and try, by the interpreter. -/
namespace Iv
open PySem PySem.Spec PyProof.Rows L2
section
variable {X : Cx} {ca : Nat → Addr} {E : XK} {F : Fns}
/-- an own class of errors, as the world of a body has it -/
structure XCls (X : Cx) (ca : Nat → Addr) (c : Nat) (x : Str) (fs : List Str) : Prop where
  ex : ∃ (fI : Addr) (fd : FuncData) (N : List Str), X.mg x = some (.ref (ca c)) ∧ OexC X.K (ca c) ∧ PySem.W.findIn X.K (.ref (ca c)) "__init__" = some (some (.ref fI)) ∧ PySem.W.typeIn X.K (.ref fI) = some (.type "function") ∧
    FnOk X.prog X.w X.K X.mg X.base (L2.CX X.prog X.w) 1 fI fd N (spI X.K fs) ∧ Binds X.K fd N [] ∧ (∀ f ∈ fs, PySem.W.findIn X.K (.ref (ca c)) f = some none) ∧ fs.length ≤ 800
theorem passF {X : Cx} : Passes (L2.CX X.prog X.w) X (fun _ _ _ => False) := fun _ _ _ _ _ _ _ c => by
  obtain ⟨_, _, _, _, _, _, _, _, _, _, _, _, no⟩ := c
  exact no.elim
theorem st_rse {c : Nat} {x : Str} {fs : List Str} {e : Expr} {es : List Expr} {ies : IEs} {p pos pos' : Pos} (W : XCls X ca c x fs) (hc : X.calm = true) (hr : Room 2 X.A) (tk : Takes X (fun cls d _ H => E cls d H)) (hg : Gl X x) (hdb : (x == ("__debug__" : Str)) = false)
    (ha : PA X (e :: es) (tEs (gX X ca) E F ies)) (hs : (e :: es).all nst = true) : PS X (.Raise (some (.Call (.Name x p) (e :: es) [] pos)) none pos') (tS (gX X ca) E F (.rse c fs ies)) := by
  obtain ⟨fI, fd, N, hm, T, iC, tI, F1, hb, hn, hfs⟩ := W.ex
  have hq := Bool.and_eq_true_iff.mp hs
  refine PS.imp (ps_raise hc tk (pmk_oex (sp := spI X.K fs) (ds := []) (dvs := []) T iC tI F1 hr hb .nil passF hg hm ha hdb (star_cons hq.1) (star_any hq.2))) fun D σ H q => ?_
  obtain ⟨μ, ρ, S, r, sl, p⟩ := q
  have p : PostS (gX X ca) E D ((evEs F ies ρ S).bindS fun ds S1 => if ds.length = fs.length ∧ xOk ds = true then .ex c (fs.zip ds).reverse S1 else .bad) μ H := p
  refine ⟨μ, ρ, S, r, sl, p.bindS.imp fun ds S1 μ1 H1 e1 r1 q vs hv => ?_⟩
  by_cases ok : ds.length = fs.length ∧ xOk ds = true
  · rw [if_pos ok] at q
    have hl : vs.length = fs.length := by rw [← hv.length, ok.1]
    refine ⟨by rw [hl]; omega, fun a ha => ?_⟩
    rw [List.append_nil]
    refine ⟨a, ca c, vs, μ1, ds, rfl, hl, Reps.mono (Ext.obj ha) hv, ok.2, T, hn, upd_same, fun dx hd n => ?_⟩
    rw [upd_ne n] at hd
    refine ⟨rfl, dx, (fs.zip vs).reverse, finC_a n, finC_d, hd, ?_⟩
    rw [finC_end n ha]
    have r1 : Rel (gX X ca) μ1 S1 H1 := r1
    refine q μ1 _ (.ref (ca c)) (some dx) (Ext.obj hd) (r1.obj hd) ⟨rfl, .inr ⟨dx, _, rfl, upd_same, ?_, ?_⟩⟩
    · rw [List.map_reverse, List.map_reverse, List.map_fst_zip (by rw [ok.1]; exact Nat.le_refl _), List.map_fst_zip (by rw [hl]; exact Nat.le_refl _)]
    · rw [List.map_reverse, List.map_reverse, List.map_snd_zip (by rw [ok.1]; exact Nat.le_refl _), List.map_snd_zip (by rw [hl]; exact Nat.le_refl _)]
      exact Reps.mono (Ext.obj hd) hv.rev
  · rw [if_neg ok] at q
    exact q.elim
end
/-! ### a try's body -/
abbrev XS := L2.St → XK
def tIX (g : G) (E : XS) (F : Fns) (x : IX) : TE := fun σ H Q => ∃ μ ρ S, Rel g μ S H ∧ Slots g.K μ H σ ρ ∧ Post g (E σ) (evIX F x ρ S) μ H fun d _ μ' H' => ∀ v, Rep g.K μ' H' d v → Q v H'
def tIXs (g : G) (E : XS) (F : Fns) (xs : List IX) : TA := fun σ H Q => ∃ μ ρ S, Rel g μ S H ∧ Slots g.K μ H σ ρ ∧ Post g (E σ) (evIXs F xs ρ S) μ H fun ds _ μ' H' => ∀ vs, Reps g.K μ' H' ds vs → Q vs H'
def tIB (g : G) (E : XS) (F : Fns) (b : IB) : TS := fun N σ H => ∃ μ ρ S, Rel g μ S H ∧ Slots g.K μ H σ ρ ∧ PostS g (E σ) N (evIB F b ρ S) μ H
section
variable {X : Cx} {ca : Nat → Addr} {E : XS} {F : Fns}
theorem run_ownS {a : Addr} {fd : FuncData} {ps : List PySem.Str} {k : Nat} {sp : Sp} {pins : List (Addr × Obj)} {s : Shared} {σ : L2.St} {H : Hp} {Q : VK} {us : List Value} {vs : List V} (G1 : FnG X.prog X.w X.K X.mg X.base (L2.CX X.prog X.w) k a fd ps sp) (hr : Room k X.A) (hg : X.A.guards = some []) (hb : Binds X.K fd ps [])
    (hx : PassesAt (L2.CX X.prog X.w) X σ (E σ)) (I : Inv X pins σ H s) (r : Vals vs us) (h : sp vs H Q (E σ)) : wpAny (model X.prog X.w) X.A (call (.ref a) us) (EP X pins σ Q) X.xe s := by
  have hl : (us ++ []).length = ps.length := by
    rw [List.append_nil, ← r.length]
    exact G1.len _ _ _ _ h
  have hbt := hb s us I.kIn hl
  rw [List.append_nil] at hbt
  refine wpAny_call (codeAny_mono (G1.run X.A X.stack s H ⟨us, []⟩ us vs Q (E σ) hr hg I.env0 hbt r h) fun r2 s' hq => ?_)
  rcases r2 with e | (_ | u | _ | _)
  · exact hx pins H s e s' I hq
  all_goals first | exact I.after hq | exact False.elim hq
theorem ix_call {f : Nat} {x : PySem.Str} {ps : List PySem.Str} {k : Nat} {es : List Expr} {ies : IEs} {p pos : Pos} (O : Own X F ca k f x ps) (hr : Room k X.A) (hg : X.A.guards = some []) (hx : ∀ σ, PassesAt (L2.CX X.prog X.w) X σ (E σ)) (hgl : Gl X x) (hd : (x == ("__debug__" : PySem.Str)) = false)
    (ha : PA X es (tEs (gX X ca) E0 F ies)) (hs : es.all nst = true) (hn : es = [] → ies = .nil) : PE X (.Call (.Name x p) es [] pos) (tIX (gX X ca) E F (.call f ies)) := by
  obtain ⟨a, fd, hm, hk, hb, G1⟩ := O.ex
  refine ⟨fun pins s σ H Q I q => ?_⟩
  obtain ⟨μ, ρ, S, r, sl, p⟩ := q
  have p : Post (gX X ca) (E σ) (match evEs F ies ρ S with
    | .ok ds S1 => F f ds S1
    | _ => .bad) μ H fun d _ μ' H' => ∀ v, Rep X.K μ' H' d v → Q v H' := p
  refine wpAny_Call_Name_kw (ld_glob I hgl hm ?_ hd)
  cases h : evEs F ies ρ S with
  | ok ds S1 =>
    rw [h] at p
    have p : Post (gX X ca) (E σ) (F f ds S1) μ H fun d _ μ' H' => ∀ v, Rep X.K μ' H' d v → Q v H' := p
    cases es with
    | nil =>
      obtain rfl := hn rfl
      cases h
      exact PySem.W.callWith_K0 I.kIn hk (run_ownS (us := []) (vs := []) G1 hr hg hb (hx σ) I .nil ⟨μ, _, [], r, rfl, p⟩)
    | cons e es' =>
      have hq := Bool.and_eq_true_iff.mp hs
      refine PySem.W.callWith_K (h₀ := X.base) I.ok.mod.kin hk (thn (ha.run pos pins s σ H (fun xs H1 => ∃ μ1 S1 ds, Rel (gX X ca) μ1 S1 H1 ∧ Reps X.K μ1 H1 ds xs ∧ Post (gX X ca) (E σ) (F f ds S1) μ1 H1 fun d2 _ μ' H' => ∀ v, Rep X.K μ' H' d2 v → Q v H') I
        ⟨μ, ρ, S, r, sl, by rw [h]; exact fun μ' H' e' r' xs hxs => ⟨μ', S1, ds, r', hxs, Post.pre e' p⟩⟩) fun us s1 ⟨vs, H1, I1, rv, q1⟩ => ⟨I1.kIn, ?_⟩) (star_cons hq.1) (star_any hq.2)
      exact run_ownS G1 hr hg hb (hx σ) I1 rv q1
  | ex c fs S1 => rw [h] at p; exact p.elim
  | bad => rw [h] at p; exact p.elim
theorem ix_con {e : Expr} {c : D} {v : V} (h : PE X e (L2.tC v)) (hv : ∀ μ H, Rep X.K μ H c v) : PE X e (tIX (gX X ca) E F (.con c)) := by
  refine PE.imp h fun σ H Q q => ?_
  obtain ⟨μ, ρ, S, r, sl, p⟩ := q
  exact Post.okI (show Post (gX X ca) (E σ) (.ok c S) μ H _ from p) r v (hv μ H)
theorem ixs_nil : PA X [] (tIXs (gX X ca) E F []) := by
  refine PA.imp pa_nil fun σ H Q q => ?_
  obtain ⟨μ, ρ, S, r, sl, p⟩ := q
  exact Post.okI (show Post (gX X ca) (E σ) (.ok [] S) μ H _ from p) r [] rfl
theorem ixs_cons {e : Expr} {es : List Expr} {x : IX} {xs : List IX} (h : PE X e (tIX (gX X ca) E F x)) (hs : PA X es (tIXs (gX X ca) E F xs)) (hn : nst e = true) : PA X (e :: es) (tIXs (gX X ca) E F (x :: xs)) := by
  refine PA.imp (pa_cons h hs (star_cons hn)) fun σ H Q q => ?_
  obtain ⟨μ, ρ, S, r, sl, p⟩ := q
  have p : Post (gX X ca) (E σ) ((evIX F x ρ S).bind fun d S1 => (evIXs F xs ρ S1).bind fun ds S2 => .ok (d :: ds) S2) μ H _ := p
  exact ⟨μ, ρ, S, r, sl, p.bind.imp fun d S1 μ1 H1 e1 r1 q v hv => ⟨μ1, ρ, S1, r1, sl.mono e1, q.bind.imp fun ds S2 μ2 H2 e2 r2 q2 vs hvs => q2.okI r2 (v :: vs) ⟨v, vs, rfl, hv.mono e2, hvs⟩⟩⟩
theorem ixs_tup {es : List Expr} {xs : List IX} {x1 : Nat} {pos : Pos} (h : PA X es (tIXs (gX X ca) E F xs)) : PE X (.Tuple es x1 pos) (fun σ H Q => ∃ μ ρ S, Rel (gX X ca) μ S H ∧ Slots X.K μ H σ ρ ∧ Post (gX X ca) (E σ) ((evIXs F xs ρ S).bind fun ds S1 => if ds.length ≤ sizeLine then .ok (D.tup ds) S1 else .bad) μ H fun d _ μ' H' => ∀ v, Rep X.K μ' H' d v → Q v H') := by
  refine ⟨fun pins s σ H Q I q => ?_⟩
  obtain ⟨μ, ρ, S, r, sl, p⟩ := q
  refine wpAny_Tuple_spliced (thn (h.run pos pins s σ H (fun xs H1 => ∃ μ1 S1 ds, Rel (gX X ca) μ1 S1 H1 ∧ Reps X.K μ1 H1 ds xs ∧ ds.length ≤ sizeLine ∧ Post (gX X ca) (E σ) (.ok (D.tup ds) S1) μ1 H1 fun d2 _ μ' H' => ∀ v, Rep X.K μ' H' d2 v → Q v H') I
    ⟨μ, ρ, S, r, sl, p.bind.imp fun ds S1 μ1 H1 e1 r1 p1 vs hxs => ?_⟩) fun us s1 ⟨xs, H1, I1, rv, μ1, S1, ds, r1, hxs, z, p1⟩ => ?_)
  · by_cases c : ds.length ≤ sizeLine
    · rw [if_pos c] at p1
      exact ⟨μ1, S1, ds, r1, hxs, c, p1⟩
    · rw [if_neg c] at p1
      exact p1.elim
  · have hz : xs.length ≤ sizeLine := by rw [← hxs.length]; exact z
    refine ⟨by rw [← rv.length]; exact hz, ?_⟩
    obtain ⟨hp, gg, dd, tt, oo⟩ := s1
    exact EP.tup I1 rv hz p1 r1 hxs
end
/-! ### isinstance of the error that a suite holds -/
section
open PySem.W
variable {prog : Program} {w : World} {A : Around} {E : Value → Shared → Prop} {s : Shared} {K : Frag} {x D : Addr} {ox : Obj} {od : Option Obj}
theorem findObj_dataO {C : Addr} {name : Str} {a g : Value} (hc : (clsIn K C).isSome = true) (ha : findIn K (.ref C) name = some (some a)) (hg : specialIn K a "__get__" = some (some g)) (ht : takesIn K a = some true) : findObj K C od name = some (.bind g a) := by
  obtain ⟨cd, hc⟩ := Option.isSome_iff_exists.mp hc
  unfold findObj
  rw [hc, Option.bind_some, ha, Option.bind_some]
  simp [hg, ht]
theorem kin_classO {Q : Option Value → Shared → Prop} (C : ExcC K D) (X : K.In s.heap) (I : InstAt s.heap x ox D od) (h : Q (some (.ref D)) { s with toks := s.toks + 1 }) : wpAny (model prog w) A (getAttr? (.ref x) "__class__") Q E s := by
  have hf : findObj K D od "__class__" = some (.bind (.builtin "getset_descriptor.__get__") (.builtin "object.__class__")) := findObj_dataO (by obtain ⟨cd, hc, _⟩ := any_some C.hd; rw [hc]; rfl) C.ha C.hn C.ht
  have hga := C.hg
  have hgt := C.hk
  have hsub := C.hs
  have hm := C.hm
  obtain ⟨hp, g, d, t, os⟩ := s
  have L0 := I.type (M := model prog w)
  have L1 := looks_findIn (M := model prog w) X hga
  have L2 := looks_findIn (M := model prog w) X hgt
  have L3 := looks_find (M := model prog w) X I hf
  have sub : Looks (model prog w) hp (isInstance (.ref x) (.type "BaseException")) true := L0.andThen (looks_subIn X hsub)
  have hx0 : (false && onTheHeap (Value.builtin "BaseException.__getattribute__")) = false := rfl
  have hx2 : (Value.builtin "BaseException.__getattribute__" == Value.builtin "object.__getattribute__") = false := by decide +kernel
  have hx1 : (onTheHeap (Value.ref D) && Value.builtin "BaseException.__getattribute__" == Value.builtin "object.__getattribute__") = false := by rw [hx2]; rfl
  unfold getAttr? getAttrBy? getAttrBy
  refine wpAny_bind (wpAny_mkText (wpAny_bind (wpAny_attempt (wpAny_holding (wpAny_bind (L0.at (wpAny_bind (L1.at ?_))))))))
  show wpAny _ _ (if (onTheHeap (Value.ref D) && Value.builtin "BaseException.__getattribute__" == Value.builtin "object.__getattribute__") = true then _ else _) _ _ _
  rw [hx1, if_neg Bool.false_ne_true]
  unfold getAttrByItsOwn hookBefore
  refine wpAny_bind ?_
  rw [if_pos (show onTheHeap (Value.ref D) = true from rfl)]
  refine L2.at ?_
  refine wpAny_bind (wpAny_attempt (wpAny_holding ?_))
  unfold callGetattribute
  rw [hx0, if_neg Bool.false_ne_true]
  unfold boundAndCalled
  rw [PySem.F.excAttr_ValueError.ga.bind (.ref x)]
  refine wpAny_bind (wpAny_pure ?_)
  show wpAny _ _ (call (.builtin "BaseException.__getattribute__") [.ref x, .str "__class__" t]) _ _ _
  refine wpAny_call (codeAny_call_builtin PySem.F.excAttr_ValueError.ga.plain PySem.F.entry_bexc_ga ?_)
  refine @check_slot (model prog w) _ _ ⟨hp, g, d, t + 1, os⟩ "BaseException.__getattribute__" "BaseException" "__getattribute__" (.ref x) [.str "__class__" t] [] _ (by decide +kernel) (by decide +kernel) sub (PySem.F.args_bexc_ga (.ref x) (.str "__class__" t)) ?_
  unfold Builtin.«object.__getattribute__»
  refine wpAny_bind (wpAny_of_eq (a := ((Value.ref x : Value), [Value.str "__class__" t])) (by first | rfl | (simp only [slotArgs]; rfl)) ?_)
  refine wpAny_bind (wpAny_pure (wpAny_bind (L0.at (wpAny_bind (L3.at ?_)))))
  show wpAny _ _ (holding [Value.builtin "object.__class__"] (call (.builtin "getset_descriptor.__get__") [.builtin "object.__class__", .ref x, .ref D]) >>= ret) _ _ _
  refine wpAny_bind (wpAny_holding (wpAny_call (class_get (s := ⟨hp, g, d, t + 1, os⟩) (ox := ox) (od := od) X I hm ?_)))
  refine wpAny_pure ?_
  show wpAny _ _ (handedOut (.ref D)) _ _ _
  rw [handedOut_of (v := .ref D) rfl]
  first
    | exact wpAny_pure (wpAny_pure h)
    | exact wpAny_pure h
    | exact wpAny_pure (wpAny_bind (wpAny_pure (wpAny_pure h)))
theorem kitx_excO (C : ExcC K D) : KitX K (.ref x) (.ref D) (fun h => InstAt h x ox D od) where
  ty := fun _ _ _ I => I.type
  it := fun _ _ X _ => by
    obtain ⟨cdD, hcD, _⟩ := any_some C.hd
    unfold clsIn at hcD
    split at hcD
    · rename_i c' d' cd' sl' ho
      intro A' Q' E' s' k q
      unfold isType loadHead
      exact wpAny_bind (wpAny_loadPart (k _ _ (X _ _ ho)) (wpAny_pure q))
    · cases hcD
  ne := fun h tp dd its n sl X htp => by
    obtain ⟨cdD, hcD, _⟩ := any_some C.hd
    refine Bool.eq_false_iff.mpr fun q => ?_
    have e : D = tp := Value.ref.inj (beq_iff_eq.mp q)
    subst e
    unfold clsIn at hcD
    split at hcD
    · rename_i c' d' cd' sl' ho
      have z := (X _ _ ho).symm.trans htp
      cases z
    · cases hcD
  ca := fun X I k => kin_classO C X I k
end
/-- isinstance(e, c), isinstance(e, (c, ..)): e the error that the suite holds, with its dict or without -/
def rIsD (K : PySem.W.Frag) (D a : Addr) (d : Option Addr) : List V → Hp → VK → Prop := fun xs H Q => (d = none ∨ ∃ dd fs, d = some dd ∧ H dd = some (.xd fs)) ∧
  ((∃ (c : Addr) (b : Bool), xs = [.ref a, .ref c] ∧ PySem.W.kitOne K (.ref D) (.ref c) = some b ∧ Q (.bl b) H) ∨
   ∃ (tp : Addr) (cs : List V) (us : List Value) (b : Bool), xs = [.ref a, .ref tp] ∧ H tp = some (.tup cs) ∧ Paired ClsV cs us ∧ PySem.W.kitAny K (.ref D) us = some b ∧ Q (.bl b) H)
theorem call_isD {X : Cx} {a D : Addr} {d : Option Addr} {oe : Obj} {pn : List (Addr × Obj)} (C : ExcC X.K D) (hz : Zc (.ref D) d oe) (hf : ∃ vs, oe.data = .fields vs) : CallR (X.suite a ((a, oe) :: pn)) (.builtin "isinstance") (rIsD X.K D a d) := by
  intro pins s σ H xs us Q I r h
  obtain ⟨hd, h⟩ := h
  obtain ⟨hget, _⟩ := I.pin (a, oe) (List.mem_append.mpr (.inl List.mem_cons_self))
  obtain ⟨vs, hv⟩ := hf
  have J : ∃ od, PySem.W.InstAt s.heap a oe D od := by
    obtain ⟨oc, odd, oda, osl⟩ := oe
    obtain ⟨h1, h2⟩ := hz
    dsimp only at h1 h2 hv
    subst h1 h2 hv
    rcases hd with rfl | ⟨dd, fs, rfl, he⟩
    · exact ⟨none, hget, rfl, rfl, trivial⟩
    · obtain ⟨mA, hns, _⟩ := (show ObjOk X.prog X.w H s.heap dd (.xd fs) from I.hok dd _ he)
      obtain ⟨od, ho, _⟩ := lookIn_ns hns
      exact ⟨some od, hget, rfl, rfl, ho⟩
  obtain ⟨od, J⟩ := J
  rcases h with ⟨c, b, rfl, e, q⟩ | ⟨tp, cs, ws, b, rfl, hT, k, e, q⟩
  · obtain ⟨u1, u2, rfl, r1, r2⟩ := vals2 r
    cases (show u1 = Value.ref a from r1)
    cases (show u2 = Value.ref c from r2)
    exact PySem.W.kia_one (kitx_excO C) I.kIn J e (fun z => nomatch z) fun tk => ⟨.bl b, H, I.kept (t' := tk) fun _ _ z => z, rfl, q⟩
  · obtain ⟨u1, u2, rfl, r1, r2⟩ := vals2 r
    cases (show u1 = Value.ref a from r1)
    cases (show u2 = Value.ref tp from r2)
    obtain ⟨_, its, rv, o, h1, h2, n, h3⟩ := (show ObjOk X.prog X.w H s.heap tp (.tup cs) from I.hok tp _ hT)
    have e3 := ClsV.all k rv
    subst e3
    obtain ⟨oc, od2, dt, sl⟩ := o
    simp only at h2 h3
    subst h2 h3
    exact PySem.W.kia_tup (kitx_excO C) I.kIn J h1 e (fun z => nomatch z) fun tk => ⟨.bl b, H, I.kept (t' := tk) fun _ _ z => z, rfl, q⟩
/-! ### a try's suite -/
/-- what the text says of the errors ids: their fields flds, the classes cls -/
structure XIds (K : PySem.W.Frag) (ca : Nat → Addr) (ids cls : List Nat) (flds : List Str) : Prop where
  xf : ∀ c ∈ ids, XfC K (ca c)
  ex : ∀ c ∈ ids, ExcC K (ca c)
  no : ∀ c ∈ ids, ∀ f ∈ flds, PySem.W.findIn K (.ref (ca c)) f = some none
  kit : ∀ c ∈ ids, ∀ d ∈ cls, PySem.W.kitOne K (.ref (ca c)) (.ref (ca d)) = some (subB c d)
  exm : ∀ c ∈ ids, ∀ d ∈ cls, PySem.W.exmOne K (.ref (ca c)) (.ref (ca d)) = some (subB c d)
/-- the error in the suite's hand -/
structure Hold (g : G) (i : Option Nat) (a : Addr) (cls : Value) (d : Option Addr) (ids : List Nat) (σ : L2.St) (μ : List Addr) (H : Hp) (c : Nat) (fs : List (Str × D)) : Prop where
  mem : c ∈ ids
  rep : XRep g μ H c fs cls d
  at_ : ∀ j, i = some j → σ[j]? = some (some (.ref a))
section
variable {g : G} {i : Option Nat} {a : Addr} {cls : Value} {d : Option Addr} {ids : List Nat} {σ : L2.St} {μ μ1 : List Addr} {H H1 : Hp} {c : Nat} {fs : List (Str × D)}
theorem XRep.mono (e : Ext g.K μ μ1 H H1) (x : XRep g μ H c fs cls d) (hd : ∀ dx, d = some dx → dx ∉ μ) : XRep g μ1 H1 c fs cls d := by
  obtain ⟨h1, h2⟩ := x
  refine ⟨h1, h2.imp id fun ⟨dx, fs', e1, e2, e3, e4⟩ => ⟨dx, fs', e1, e.keep dx _ e2 (hd dx e1), e3, e4.mono e⟩⟩
theorem XRep.nmem {S : Store} (r : Rel g μ S H) (x : XRep g μ H c fs cls d) : ∀ dx, d = some dx → dx ∉ μ := fun dx e hm => by
  obtain ⟨_, h⟩ := x
  rcases h with ⟨_, h⟩ | ⟨dx', fs', e1, e2, _⟩
  · rw [e] at h
    cases h
  · rw [e] at e1
    cases e1
    obtain ⟨n, hn⟩ := List.getElem?_of_mem hm
    have lt : n < S.length := by
      rw [← r.len]
      exact (List.getElem?_eq_some_iff.mp hn).1
    have z := r.at_ n dx _ hn (List.getElem?_eq_getElem lt)
    generalize S[n] = cell at z
    cases cell with
    | lst ds =>
      obtain ⟨vs, h1, _⟩ := z
      rw [e2] at h1
      cases h1
    | dct lk kvs =>
      obtain ⟨kvs', h1, _⟩ := z
      cases lk with
      | true =>
        obtain ⟨o, h1⟩ := h1
        rw [e2] at h1
        cases h1
      | false =>
        have h1 : H dx = some (.dK kvs') := h1
        rw [e2] at h1
        cases h1
    | dtp kvs => exact z.1.elim
    | set ks =>
      have h1 := z.1
      rw [e2] at h1
      cases h1
    | ins c fs =>
      obtain ⟨dx2, fs2, h1, _⟩ := z
      rw [e2] at h1
      cases h1
theorem Hold.mono {S : Store} (h : Hold g i a cls d ids σ μ H c fs) (r : Rel g μ S H) (e : Ext g.K μ μ1 H H1) : Hold g i a cls d ids σ μ1 H1 c fs := ⟨h.mem, h.rep.mono e (h.rep.nmem r), h.at_⟩
theorem look_fs {f : Str} {dv : D} : ∀ {fs : List (Str × D)} {fs' : List (Str × V)}, fs.map (·.1) = fs'.map (·.1) → Reps g.K μ H (fs.map (·.2)) (fs'.map (·.2)) → lookA f fs = some dv → ∃ v, fs'.lookup f = some v ∧ Rep g.K μ H dv v
  | [], _, _, _, h => by cases h
  | _ :: _, [], e, _, _ => by cases e
  | (x, d1) :: r, (y, v1) :: r', e, h, l => by
    obtain ⟨e1, e2⟩ := List.cons.inj e
    obtain ⟨v', q, ev, h1, h2⟩ := h
    obtain ⟨rfl, rfl⟩ := List.cons.inj ev
    have e1 : x = y := e1
    subst e1
    unfold lookA at l
    by_cases z : x = f
    · rw [if_pos z] at l
      cases l
      refine ⟨v1, ?_, h1⟩
      rw [List.lookup_cons, show (f == x) = true from by rw [z]; simp]
    · rw [if_neg z] at l
      obtain ⟨v, q1, q2⟩ := look_fs e2 h2 l
      refine ⟨v, ?_, q2⟩
      rw [List.lookup_cons, show (f == x) = false from beq_eq_false_iff_ne.mpr (Ne.symm z)]
      exact q1
end
def tSV (g : G) (i : Option Nat) (a : Addr) (cls : Value) (d : Option Addr) (ids : List Nat) (v : SV) : TE := fun σ H Q => ∃ μ S c fs dv, Rel g μ S H ∧ Hold g i a cls d ids σ μ H c fs ∧ evSV fs v = some dv ∧ ∀ x, Rep g.K μ H dv x → Q x H
def tSVs (g : G) (i : Option Nat) (a : Addr) (cls : Value) (d : Option Addr) (ids : List Nat) (vs : List SV) : TA := fun σ H Q => ∃ μ S c fs ds, Rel g μ S H ∧ Hold g i a cls d ids σ μ H c fs ∧ mapO (evSV fs) vs = some ds ∧ ∀ xs, Reps g.K μ H ds xs → Q xs H
def tSE (g : G) (i : Option Nat) (a : Addr) (cls : Value) (d : Option Addr) (ids : List Nat) (e : SE) : TE := fun σ H Q => ∃ μ S c fs dv S1, Rel g μ S H ∧ Hold g i a cls d ids σ μ H c fs ∧ evSE fs e S = .ok dv S1 ∧ ∀ x μ' H', Ext g.K μ μ' H H' → Rel g μ' S1 H' → Rep g.K μ' H' dv x → Q x H'
def tSQ (g : G) (i : Option Nat) (a : Addr) (cls : Value) (d : Option Addr) (ids : List Nat) (q : SQ) : TT := fun σ H Q => ∃ μ S c fs, Rel g μ S H ∧ Hold g i a cls d ids σ μ H c fs ∧ ∀ H', Ext g.K μ μ H H' → Rel g μ S H' → Q (evSQ c q) H'
def tSU (g : G) (i : Option Nat) (a : Addr) (cls : Value) (d : Option Addr) (ids : List Nat) (s : SU) : TS := fun N σ H => ∃ μ ρ S c fs ρ' S', Rel g μ S H ∧ Slots g.K μ H σ ρ ∧ Hold g i a cls d ids σ μ H c fs ∧ evSU i c fs s ρ S = .nx ρ' S' ∧
  ∀ μ' H' σ', Ext g.K μ μ' H H' → Rel g μ' S' H' → Slots g.K μ' H' σ' ρ' → Hold g i a cls d ids σ' μ' H' c fs → N.nx σ' H'
def tSUs (g : G) (i : Option Nat) (a : Addr) (cls : Value) (d : Option Addr) (ids : List Nat) (s : SUs) : TS := fun N σ H => ∃ μ ρ S c fs ρ' S', Rel g μ S H ∧ Slots g.K μ H σ ρ ∧ Hold g i a cls d ids σ μ H c fs ∧ evSUs i c fs s ρ S = .nx ρ' S' ∧
  ∀ μ' H' σ', Ext g.K μ μ' H H' → Rel g μ' S' H' → Slots g.K μ' H' σ' ρ' → Hold g i a cls d ids σ' μ' H' c fs → N.nx σ' H'
section
variable {X : Cx} {ca : Nat → Addr} {i : Option Nat} {a : Addr} {oe : Obj} {cls : Value} {d : Option Addr} {pn : List (Addr × Obj)} {ids cl : List Nat} {flds : List Str}
abbrev YY (X : Cx) (a : Addr) (oe : Obj) (pn : List (Addr × Obj)) : Cx := X.suite a ((a, oe) :: pn)
theorem sv_con {e : Expr} {k : D} {v : V} (h : PE (YY X a oe pn) e (L2.tC v)) (hv : ∀ μ H, Rep X.K μ H k v) : PE (YY X a oe pn) e (tSV (gX X ca) i a cls d ids (.con k)) := by
  refine PE.imp h fun σ H Q q => ?_
  obtain ⟨μ, S, c, fs, dv, r, ho, ev, q⟩ := q
  cases ev
  exact q v (hv μ H)
theorem sv_fld {n f : Str} {j : Nat} {p p2 : Pos} (W : XIds X.K ca ids cl flds) (hf : f ∈ flds) (hi : i = some j) (hn : PE (YY X a oe pn) (.Name n p) (tVar j)) (hz : Zc cls d oe) (hd : ∃ vs, oe.data = .fields vs) : PE (YY X a oe pn) (.Attribute (.Name n p) f p2) (tSV (gX X ca) i a cls d ids (.fld f)) := by
  refine ⟨fun pins s σ H Q I q => ?_⟩
  obtain ⟨μ, S, c, fs, dv, r, ho, ev, q⟩ := q
  obtain ⟨hc, h⟩ := ho.rep
  have ev : lookA f fs = some dv := ev
  rcases h with ⟨rfl, _⟩ | ⟨dx, fs', e1, e2, e3, e4⟩
  · cases ev
  · obtain ⟨v, l, rv⟩ := look_fs (g := gX X ca) e3 e4 ev
    refine (pe_xf (X := X) (W.xf c ho.mem) (W.no c ho.mem f hf) hz hd hn rfl).run pins s σ H Q I ?_
    exact ⟨.ref a, ho.at_ j hi, rfl, hc, dx, fs', v, e1, e2, l, q v rv⟩
theorem svs_nil : PA (YY X a oe pn) [] (tSVs (gX X ca) i a cls d ids []) := by
  refine PA.imp pa_nil fun σ H Q q => ?_
  obtain ⟨μ, S, c, fs, ds, r, ho, ev, q⟩ := q
  cases ev
  exact q [] rfl
theorem svs_cons {e : Expr} {es : List Expr} {v : SV} {vs : List SV} (h : PE (YY X a oe pn) e (tSV (gX X ca) i a cls d ids v)) (hs : PA (YY X a oe pn) es (tSVs (gX X ca) i a cls d ids vs)) (hn : nst e = true) : PA (YY X a oe pn) (e :: es) (tSVs (gX X ca) i a cls d ids (v :: vs)) := by
  refine PA.imp (pa_cons h hs (star_cons hn)) fun σ H Q q => ?_
  obtain ⟨μ, S, c, fs, ds, r, ho, ev, q⟩ := q
  unfold mapO at ev
  cases h1 : evSV fs v with
  | none => rw [h1] at ev; cases ev
  | some d1 =>
    cases h2 : mapO (evSV fs) vs with
    | none => rw [h1, h2] at ev; cases ev
    | some d2 =>
      rw [h1, h2] at ev
      cases ev
      exact ⟨μ, S, c, fs, d1, r, ho, h1, fun x hx => ⟨μ, S, c, fs, d2, r, ho, h2, fun xs hxs => q (x :: xs) ⟨x, xs, rfl, hx, hxs⟩⟩⟩
theorem se_at {e : Expr} {v : SV} (h : PE (YY X a oe pn) e (tSV (gX X ca) i a cls d ids v)) : PE (YY X a oe pn) e (tSE (gX X ca) i a cls d ids (.at_ v)) := by
  refine PE.imp h fun σ H Q q => ?_
  obtain ⟨μ, S, c, fs, dv, S1, r, ho, ev, q⟩ := q
  have ev : ok? (evSV fs v) S = .ok dv S1 := ev
  cases h1 : evSV fs v with
  | none => rw [h1] at ev; cases ev
  | some d1 =>
    rw [h1] at ev
    cases ev
    exact ⟨μ, S, c, fs, dv, r, ho, h1, fun x hx => q x μ H Ext.refl r hx⟩
theorem se_lst {es : List Expr} {vs : List SV} {pos : Pos} (h : PA (YY X a oe pn) es (tSVs (gX X ca) i a cls d ids vs)) : PE (YY X a oe pn) (.List es pos) (tSE (gX X ca) i a cls d ids (.lst vs)) := by
  refine PE.imp (pe_lst h) fun σ H Q q => ?_
  obtain ⟨μ, S, c, fs, dv, S1, r, ho, ev, q⟩ := q
  have ev : (match mapO (evSV fs) vs with
    | some ds => if ds.length ≤ sizeLine then newC (.lst ds) S else .bad
    | none => .bad) = .ok dv S1 := ev
  cases h1 : mapO (evSV fs) vs with
  | none => rw [h1] at ev; cases ev
  | some ds =>
    rw [h1] at ev
    dsimp only at ev
    by_cases z : ds.length ≤ sizeLine
    · rw [if_pos z] at ev
      cases ev
      refine ⟨μ, S, c, fs, ds, r, ho, h1, fun xs hxs => ⟨by rw [← hxs.length]; exact z, fun p hp => ?_⟩⟩
      have hc : CellOk (gX X ca) (μ ++ [p]) (upd H p (.lst xs)) p (.lst ds) := ⟨xs, upd_same, Reps.mono (Ext.new hp) hxs⟩
      exact q _ _ _ (Ext.new hp) (r.new hp hc) (Rep.newLoc r.len.symm)
    · rw [if_neg z] at ev
      cases ev
theorem se_tup {es : List Expr} {vs : List SV} {x1 : Nat} {pos : Pos} (h : PA (YY X a oe pn) es (tSVs (gX X ca) i a cls d ids vs)) : PE (YY X a oe pn) (.Tuple es x1 pos) (tSE (gX X ca) i a cls d ids (.tup vs)) := by
  refine ⟨fun pins s σ H Q I q => ?_⟩
  obtain ⟨μ, S, c, fs, dv, S1, r, ho, ev, q⟩ := q
  have ev : (match mapO (evSV fs) vs with
    | some ds => if ds.length ≤ sizeLine then .ok (.tup ds) S else .bad
    | none => .bad) = Out.ok dv S1 := ev
  cases h1 : mapO (evSV fs) vs with
  | none => rw [h1] at ev; cases ev
  | some ds =>
    rw [h1] at ev
    dsimp only at ev
    by_cases z : ds.length ≤ sizeLine
    · rw [if_pos z] at ev
      cases ev
      refine wpAny_Tuple_spliced (thn (h.run pos pins s σ H (fun xs H1 => H1 = H ∧ Reps X.K μ H ds xs) I ⟨μ, S, c, fs, ds, r, ho, h1, fun xs hxs => ⟨rfl, hxs⟩⟩) fun us s1 ⟨xs, H1, I1, rv, eH, hxs⟩ => ?_)
      subst eH
      have hz : xs.length ≤ sizeLine := by rw [← hxs.length]; exact z
      refine ⟨by rw [← rv.length]; exact hz, ?_⟩
      obtain ⟨hp, gg, dd, tt, oo⟩ := s1
      have fr := I1.hok.fresh (Nat.le_refl _)
      exact ⟨.ref hp.objs.size, _, tup_laid I1 rv hz, rfl, q _ μ _ (Ext.obj fr) (r.obj fr) (Rep.newTup hxs fr rfl)⟩
    · rw [if_neg z] at ev
      cases ev
/-! ### its tests -/
theorem call_isA (W : XIds X.K ca ids cl flds) (hz : Zc cls d oe) (hf : ∃ vs, oe.data = .fields vs) : CallR (YY X a oe pn) (.builtin "isinstance") (fun xs H Q => ∃ c ∈ ids, cls = .ref (ca c) ∧ rIsD X.K (ca c) a d xs H Q) := by
  intro pins s σ H xs us Q I r h
  obtain ⟨c, hc, rfl, h⟩ := h
  exact call_isD (W.ex c hc) hz hf pins s σ H xs us Q I r h
theorem XRep.dct {g : G} {μ : List Addr} {H : Hp} {c : Nat} {fs : List (Str × D)} (x : XRep g μ H c fs cls d) : d = none ∨ ∃ dd fs', d = some dd ∧ H dd = some (.xd fs') := by
  obtain ⟨_, h⟩ := x
  rcases h with ⟨_, h⟩ | ⟨dx, fs', e1, e2, _⟩
  · exact .inl h
  · exact .inr ⟨dx, fs', e1, e2⟩
theorem sq_isi {d0 j : Nat} {n x : Str} {p1 p2 p3 pos : Pos} (W : XIds X.K ca ids cl flds) (hi : i = some j) (hn : PE (YY X a oe pn) (.Name n p2) (tVar j)) (hx : PE (YY X a oe pn) (.Name x p3) (L2.tC (.ref (ca d0)))) (hd : d0 ∈ cl) (hg : Gl X "isinstance") (hm : X.mg "isinstance" = none) (hz : Zc cls d oe) (hf : ∃ vs, oe.data = .fields vs) :
    PT (YY X a oe pn) (.Call (.Name "isinstance" p1) [.Name n p2, .Name x p3] [] pos) (tSQ (gX X ca) i a cls d ids (.isi d0)) := by
  refine PT.imp (pt_val (pe_callB (call_isA W hz hf) hg hm boot_isi (pa_cons hn (pa_cons hx pa_nil (star_cons rfl)) (star_cons rfl)) (by decide) (by decide) (star_cons rfl) rfl)) fun σ H Q q => ?_
  obtain ⟨μ, S, c, fs, r, ho, q⟩ := q
  exact ⟨.ref a, ho.at_ j hi, c, ho.mem, ho.rep.1, ho.rep.dct, .inl ⟨ca d0, _, rfl, W.kit c ho.mem d0 hd, _, rfl, q H Ext.refl r⟩⟩
/-- names of classes -/
inductive CNm (Y : Cx) (ca : Nat → Addr) : List Nat → List Expr → Prop where
  | nil : CNm Y ca [] []
  | cons {d0 : Nat} {x : Str} {p : Pos} {ds : List Nat} {es : List Expr} (h : PE Y (.Name x p) (L2.tC (.ref (ca d0)))) (t : CNm Y ca ds es) : CNm Y ca (d0 :: ds) (.Name x p :: es)
theorem CNm.pa {Y : Cx} : ∀ {ds : List Nat} {es : List Expr}, CNm Y ca ds es → PA Y es (fun _ H Q => Q (ds.map fun d => V.ref (ca d)) H)
  | _, _, .nil => PA.imp pa_nil fun _ _ _ q => q
  | _, _, .cons h t => PA.imp (pa_cons h t.pa (star_cons rfl)) fun _ _ _ q => q
theorem kit_any {K : PySem.W.Frag} {c : Nat} (W : XIds K ca ids cl flds) (hc : c ∈ ids) : ∀ {ds : List Nat}, (∀ d ∈ ds, d ∈ cl) → PySem.W.kitAny K (.ref (ca c)) (ds.map fun d => Value.ref (ca d)) = some (ds.any (subB c))
  | [], _ => rfl
  | d0 :: ds, h => by
    have e := W.kit c hc d0 (h d0 List.mem_cons_self)
    have i := kit_any W hc (ds := ds) fun d hd => h d (List.mem_cons_of_mem _ hd)
    rw [List.map_cons]
    unfold PySem.W.kitAny
    rw [e, List.any_cons]
    cases subB c d0 with
    | true => rfl
    | false => exact i
theorem pair_cls : ∀ ds : List Nat, Paired ClsV (ds.map fun d => V.ref (ca d)) (ds.map fun d => Value.ref (ca d))
  | [] => .nil
  | d0 :: ds => .cons (.own (ca d0)) (pair_cls ds)
theorem sq_ism {ds : List Nat} {j x1 : Nat} {n : Str} {es : List Expr} {p1 p2 p3 pos : Pos} (W : XIds X.K ca ids cl flds) (hi : i = some j) (hn : PE (YY X a oe pn) (.Name n p2) (tVar j)) (hx : CNm (YY X a oe pn) ca ds es) (hd : ∀ d ∈ ds, d ∈ cl) (hl : ds.length ≤ 100) (hg : Gl X "isinstance") (hm : X.mg "isinstance" = none) (hz : Zc cls d oe) (hf : ∃ vs, oe.data = .fields vs) :
    PT (YY X a oe pn) (.Call (.Name "isinstance" p1) [.Name n p2, .Tuple es x1 p3] [] pos) (tSQ (gX X ca) i a cls d ids (.ism ds)) := by
  refine PT.imp (pt_val (pe_callB (call_isA W hz hf) hg hm boot_isi (pa_cons hn (pa_cons (pe_tup hx.pa) pa_nil (star_cons rfl)) (star_cons rfl)) (by decide) (by decide) (star_cons rfl) rfl)) fun σ H Q q => ?_
  obtain ⟨μ, S, c, fs, r, ho, q⟩ := q
  refine ⟨.ref a, ho.at_ j hi, ⟨by rw [List.length_map, sizeLine_eq]; omega, fun p hp => ⟨c, ho.mem, ho.rep.1, (ho.mono r (Ext.obj (o := .tup (ds.map fun d => V.ref (ca d))) hp)).rep.dct, .inr ⟨p, _, _, _, rfl, upd_same, pair_cls ds, kit_any W ho.mem hd, _, rfl, q _ (Ext.obj hp) (r.obj hp)⟩⟩⟩⟩
theorem sq_not {e : Expr} {q : SQ} {pos : Pos} (h : PT (YY X a oe pn) e (tSQ (gX X ca) i a cls d ids q)) : PT (YY X a oe pn) (.UnaryOp .Not e pos) (tSQ (gX X ca) i a cls d ids (.not q)) := by
  refine PT.imp (pt_not h) fun σ H Q w => ?_
  obtain ⟨μ, S, c, fs, r, ho, w⟩ := w
  exact ⟨μ, S, c, fs, r, ho, w⟩
theorem sq_and {e f : Expr} {q q' : SQ} {pos : Pos} (h : PT (YY X a oe pn) e (tSQ (gX X ca) i a cls d ids q)) (h' : PT (YY X a oe pn) f (tSQ (gX X ca) i a cls d ids q')) : PT (YY X a oe pn) (.BoolOp .And [e, f] pos) (tSQ (gX X ca) i a cls d ids (.and q q')) := by
  refine PT.imp (pw_and h (pw_and1 h')).pt fun σ H Q w => ?_
  obtain ⟨μ, S, c, fs, r, ho, w⟩ := w
  refine ⟨μ, S, c, fs, r, ho, fun H' e' r' => ?_⟩
  have w1 := fun H2 e2 r2 => w H2 (Ext.trans e' e2) r2
  have es : evSQ c (.and q q') = (evSQ c q && evSQ c q') := rfl
  rw [es] at w w1
  cases hq : evSQ c q with
  | true =>
    rw [hq] at w1
    show tSQ (gX X ca) i a cls d ids q' σ H' Q
    exact ⟨μ, S, c, fs, r', ho.mono r e', fun H2 e2 r2 => w1 H2 e2 r2⟩
  | false =>
    rw [hq] at w
    show Q false H'
    exact w H' e' r'
/-! ### its statements -/
theorem su_asg {j : Nat} {y : Str} {e : Expr} {se : SE} {p pos : Pos} (he : PE (YY X a oe pn) e (tSE (gX X ca) i a cls d ids se)) (hN : X.N.Nodup) (hj : X.N[j]? = some y) (hy : Loc X.env.scope y) (hf : X.fn y = true ∨ X.env.scope.names.lookup y = some .local) (hs : swapsWith e (some (.Name y p)) pos.line X.env = pure false) :
    PS (YY X a oe pn) (.Assign [.Name y p] e pos) (tSU (gX X ca) i a cls d ids (.asg j se)) := by
  refine PS.imp (ps_set (X := YY X a oe pn) hN hj hy he hs hf) fun D σ H q => ?_
  obtain ⟨μ, ρ, S, c, fs, ρ', S', r, sl, ho, ev, q⟩ := q
  have ev : ((evSE fs se S).bindS fun d S1 => if j < ρ.length ∧ some j ≠ i then .nx (ρ.set j (some d)) S1 else .bad) = OutS.nx ρ' S' := ev
  cases h1 : evSE fs se S with
  | ok dv S1 =>
    rw [h1] at ev
    have ev : (if j < ρ.length ∧ some j ≠ i then .nx (ρ.set j (some dv)) S1 else .bad) = OutS.nx ρ' S' := ev
    by_cases z : j < ρ.length ∧ some j ≠ i
    · rw [if_pos z] at ev
      cases ev
      refine ⟨μ, S, c, fs, dv, _, r, ho, h1, fun x μ' H' e' r' hx => ?_⟩
      have hm := ho.mono r e'
      refine q μ' H' _ e' r' ((sl.mono e').set j hx) ⟨hm.mem, hm.rep, fun j' hj' => ?_⟩
      rw [List.getElem?_set_ne (fun e => z.2 (by rw [e, hj']))]
      exact ho.at_ j' hj'
    · rw [if_neg z] at ev
      cases ev
  | ex _ _ _ => rw [h1] at ev; cases ev
  | bad => rw [h1] at ev; cases ev
theorem su_ife {e : Expr} {q : SQ} {ss : List Stmt} {su : SUs} {pos : Pos} (hq : PT (YY X a oe pn) e (tSQ (gX X ca) i a cls d ids q)) (hs : PSs (YY X a oe pn) ss (tSUs (gX X ca) i a cls d ids su)) : PS (YY X a oe pn) (.If e ss [] pos) (tSU (gX X ca) i a cls d ids (.ife q su)) := by
  refine PS.imp (ps_if hq hs pss_nil) fun D σ H w => ?_
  obtain ⟨μ, ρ, S, c, fs, ρ', S', r, sl, ho, ev, w⟩ := w
  have ev : (if evSQ c q then evSUs i c fs su ρ S else .nx ρ S) = OutS.nx ρ' S' := ev
  refine ⟨μ, S, c, fs, r, ho, fun H' e' r' => ?_⟩
  cases hb : evSQ c q with
  | true =>
    rw [hb, if_pos rfl] at ev
    show tSUs (gX X ca) i a cls d ids su D σ H'
    exact ⟨μ, ρ, S, c, fs, ρ', S', r', sl.mono e', ho.mono r e', ev, fun μ2 H2 σ2 e2 r2 s2 h2 => w μ2 H2 σ2 (e'.trans e2) r2 s2 h2⟩
  | false =>
    rw [hb, if_neg Bool.false_ne_true] at ev
    cases ev
    show D.nx σ H'
    exact w μ H' σ e' r' (sl.mono e') (ho.mono r e')
theorem sus_nil : PSs (YY X a oe pn) [] (tSUs (gX X ca) i a cls d ids .nil) := by
  refine PSs.imp pss_nil fun D σ H w => ?_
  obtain ⟨μ, ρ, S, c, fs, ρ', S', r, sl, ho, ev, w⟩ := w
  cases ev
  exact w μ H σ Ext.refl r sl ho
theorem sus_cons {st : Stmt} {ss : List Stmt} {s : SU} {su : SUs} (h : PS (YY X a oe pn) st (tSU (gX X ca) i a cls d ids s)) (hs : PSs (YY X a oe pn) ss (tSUs (gX X ca) i a cls d ids su)) : PSs (YY X a oe pn) (st :: ss) (tSUs (gX X ca) i a cls d ids (.cons s su)) := by
  refine PSs.imp (pss_cons h hs) fun D σ H w => ?_
  obtain ⟨μ, ρ, S, c, fs, ρ', S', r, sl, ho, ev, w⟩ := w
  have ev : ((evSU i c fs s ρ S).bind fun ρ1 S1 => evSUs i c fs su ρ1 S1) = OutS.nx ρ' S' := ev
  cases h1 : evSU i c fs s ρ S with
  | nx ρ1 S1 =>
    rw [h1] at ev
    have ev : evSUs i c fs su ρ1 S1 = OutS.nx ρ' S' := ev
    exact ⟨μ, ρ, S, c, fs, ρ1, S1, r, sl, ho, h1, fun μ1 H1 σ1 e1 r1 s1 ho1 => ⟨μ1, ρ1, S1, c, fs, ρ', S', r1, s1, ho1, ev, fun μ2 H2 σ2 e2 r2 s2 h2 => w μ2 H2 σ2 (e1.trans e2) r2 s2 h2⟩⟩
  | rt _ _ => rw [h1] at ev; cases ev
  | bk _ _ => rw [h1] at ev; cases ev
  | ct _ _ => rw [h1] at ev; cases ev
  | ex _ _ _ => rw [h1] at ev; cases ev
  | bad => rw [h1] at ev; cases ev
end
/-! ### try -/
section
variable {X : Cx} {ca : Nat → Addr} {E : XK} {F : Fns} {ids cl : List Nat} {flds : List Str}
theorem Slots.skip {K : PySem.W.Frag} {μ : List Addr} {H : Hp} {σ : L2.St} {ρ : Env} {j : Nat} {o : Option V} (s : Slots K μ H σ ρ) (h : ρ[j]? = some none) : Slots K μ H (σ.set j o) ρ := by
  refine ⟨by rw [List.length_set]; exact s.1, fun k dv hk => ?_⟩
  have : j ≠ k := fun e => by
    subst e
    rw [h] at hk
    cases hk
  rw [List.getElem?_set_ne this]
  exact s.2 k dv hk
theorem try_read {i : Option Nat} {d0 : Nat} {su : SUs} {b : IB} {W : WX} {D : Ends} {σ : L2.St} {H : Hp} {ρ : Env} {S : Store} {μ : List Addr} (V : XIds X.K ca ids cl flds) (p : PostS (gX X ca) E D (tryO i d0 ids su ρ (evIB F b ρ S)) μ H)
    (hW : ∀ c fs S1 μ' H' cls dd, c ∈ ids → freeI i ρ = true → Ext X.K μ μ' H H' → Rel (gX X ca) μ' S1 H' → XRep (gX X ca) μ' H' c fs cls dd → (if subB c d0 = true then ∃ ρ2 S2, evSUs i c fs su ρ S1 = .nx ρ2 S2 ∧ freeI i ρ2 = true ∧ PostS (gX X ca) E D (.nx ρ2 S2) μ H else E cls dd H') → W cls dd σ H') :
    PostS (gX X ca) (WE W σ) D (evIB F b ρ S) μ H := by
  cases h : evIB F b ρ S with
  | nx ρ' S' => rw [h] at p; exact p
  | ex c fs S1 =>
    rw [h] at p
    have p : PostS (gX X ca) E D (if (ids.contains c && freeI i ρ) = true then (if subB c d0 then (match evSUs i c fs su ρ S1 with
      | .nx ρ' S' => if freeI i ρ' then .nx ρ' S' else .bad
      | _ => .bad) else .ex c fs S1) else .bad) μ H := p
    by_cases z : (ids.contains c && freeI i ρ) = true
    · rw [if_pos z] at p
      obtain ⟨z1, z2⟩ := Bool.and_eq_true_iff.mp z
      have z1 : c ∈ ids := by simpa using z1
      intro μ' H' cls dd e' r' x'
      refine hW c fs S1 μ' H' cls dd z1 z2 e' r' x' ?_
      cases hb : subB c d0 with
      | true =>
        rw [hb, if_pos rfl] at p
        rw [if_pos rfl]
        cases h2 : evSUs i c fs su ρ S1 with
        | nx ρ2 S2 =>
          rw [h2] at p
          have p : PostS (gX X ca) E D (if freeI i ρ2 then .nx ρ2 S2 else .bad) μ H := p
          by_cases z3 : freeI i ρ2 = true
          · rw [if_pos z3] at p
            exact ⟨ρ2, S2, rfl, z3, p⟩
          · rw [if_neg z3] at p
            exact p.elim
        | _ => rw [h2] at p; exact p.elim
      | false =>
        rw [hb, if_neg Bool.false_ne_true] at p
        rw [if_neg Bool.false_ne_true]
        exact p μ' H' cls dd e' r' x'
    · rw [if_neg z] at p
      exact p.elim
  | rt _ _ => rw [h] at p; exact p.elim
  | bk _ _ => rw [h] at p; exact p.elim
  | ct _ _ => rw [h] at p; exact p.elim
  | bad => rw [h] at p; exact p.elim
theorem st_try_as {x n : Str} {j d0 : Nat} {body suite : List Stmt} {b₀ : Stmt} {np pos pos' : Pos} {b : IB} {su : SUs} (V : XIds X.K ca ids cl flds) (hs : X.stack = X.env :: X.outer) (hf : X.env.frame = some X.env.locals) (hN : X.N.Nodup) (hi : X.N[j]? = some n) (hln : X.env.kindOf n = some .local) (hc : Names X x (.ref (ca d0))) (hd : d0 ∈ cl) (tk : Takes X (fun cls d _ H => E cls d H))
    (hb : ∀ (W : WX) (pn : List (Addr × Obj)) (xe : Value → Shared → Prop), Takes (X.tr pn xe) W → PSs (X.tr pn xe) body (tIB (gX X ca) (WE W) F b))
    (hsu : ∀ (a : Addr) (oe : Obj) (cls : Value) (d : Option Addr) (pn : List (Addr × Obj)), Zc cls d oe → (∃ vs, oe.data = .fields vs) → PSs (YY X a oe pn) (b₀ :: suite) (tSUs (gX X ca) (some j) a cls d ids su)) :
    PS X (.Try body [.ExceptHandler (some (.Name x np)) (some n) (b₀ :: suite) pos'] [] [] pos) (tS (gX X ca) E F (.try_ b (some j) d0 ids su)) := by
  refine PS.imp (ps_try_as hs hf hN hi hln hc tk (fun W pn xe t _ => hb W pn xe t) hsu) fun D σ H q => ?_
  obtain ⟨μ, ρ, S, r, sl, p⟩ := q
  refine ⟨μ, ρ, S, r, sl, try_read V p fun c fs S1 μ' H' cls dd hm fr e' r' x' h => ?_⟩
  have fr : ρ[j]? = some none := of_decide_eq_true fr
  refine ⟨subB c d0, by rw [x'.1]; exact V.exm c hm d0 hd, fun z a ha => ?_, fun z => ?_⟩
  · rw [if_pos z] at h
    obtain ⟨ρ2, S2, h1, h2, h3⟩ := h
    have h2 : ρ2[j]? = some none := of_decide_eq_true h2
    have lt : j < σ.length := by
      rw [sl.1]
      exact (List.getElem?_eq_some_iff.mp fr).1
    refine ⟨μ', ρ, S1, c, fs, ρ2, S2, r', (sl.mono e').skip fr, ⟨hm, x', fun k hk => ?_⟩, h1, fun μ2 H2 σ2 e2 r2 s2 _ => h3 μ2 H2 _ (e'.trans e2) r2 (s2.skip h2)⟩
    cases hk
    exact List.getElem?_set_self lt
  · rw [if_neg (by rw [z]; exact Bool.false_ne_true)] at h
    exact h
theorem st_try_only {x : Str} {d0 : Nat} {body suite : List Stmt} {b₀ : Stmt} {np pos pos' : Pos} {b : IB} {su : SUs} (V : XIds X.K ca ids cl flds) (hs : X.stack = X.env :: X.outer) (hf : X.env.frame = some X.env.locals) (hc : Names X x (.ref (ca d0))) (hd : d0 ∈ cl) (tk : Takes X (fun cls d _ H => E cls d H))
    (hb : ∀ (W : WX) (pn : List (Addr × Obj)) (xe : Value → Shared → Prop), Takes (X.tr pn xe) W → PSs (X.tr pn xe) body (tIB (gX X ca) (WE W) F b))
    (hsu : ∀ (a : Addr) (oe : Obj) (cls : Value) (d : Option Addr) (pn : List (Addr × Obj)), Zc cls d oe → (∃ vs, oe.data = .fields vs) → PSs (YY X a oe pn) (b₀ :: suite) (tSUs (gX X ca) none a cls d ids su)) :
    PS X (.Try body [.ExceptHandler (some (.Name x np)) none (b₀ :: suite) pos'] [] [] pos) (tS (gX X ca) E F (.try_ b none d0 ids su)) := by
  refine PS.imp (ps_try_only hs hf hc tk (fun W pn xe t _ => hb W pn xe t) hsu) fun D σ H q => ?_
  obtain ⟨μ, ρ, S, r, sl, p⟩ := q
  refine ⟨μ, ρ, S, r, sl, try_read V p fun c fs S1 μ' H' cls dd hm fr e' r' x' h => ?_⟩
  refine ⟨subB c d0, by rw [x'.1]; exact V.exm c hm d0 hd, fun z a ha => ?_, fun z => ?_⟩
  · rw [if_pos z] at h
    obtain ⟨ρ2, S2, h1, h2, h3⟩ := h
    exact ⟨μ', ρ, S1, c, fs, ρ2, S2, r', sl.mono e', ⟨hm, x', fun k hk => nomatch hk⟩, h1, fun μ2 H2 σ2 e2 r2 s2 _ => h3 μ2 H2 _ (e'.trans e2) r2 s2⟩
  · rw [if_neg (by rw [z]; exact Bool.false_ne_true)] at h
    exact h
end
end Iv

set_option maxRecDepth 100000
/-! IvN: arguments by place and by keyword. -/
namespace Iv
open PySem PySem.Spec PyProof.Rows L2
/-! ### arguments by place -/
theorem lookup_zip : ∀ {ns : List Str} {us : List Value} {n : Str}, us.length = ns.length → n ∈ ns → ((ns.zip us).lookup n).isSome = true
  | [], _, _, _, h => by cases h
  | _ :: _, [], _, h, _ => by cases h
  | m :: ns, u :: us, n, hl, h => by
    rw [List.zip_cons_cons, List.lookup_cons]
    cases e : n == m with
    | true => rfl
    | false =>
      rcases List.mem_cons.mp h with h | h
      · rw [h] at e
        simp at e
      · exact lookup_zip (by simpa using hl) h
theorem fm_congr {α β : Type} {f g : α → Option β} : ∀ {l : List α}, (∀ a ∈ l, f a = g a) → l.filterMap f = l.filterMap g
  | [], _ => rfl
  | a :: l, h => by
    rw [List.filterMap_cons, List.filterMap_cons, h a List.mem_cons_self, fm_congr fun b hb => h b (List.mem_cons_of_mem _ hb)]
theorem filt_zip : ∀ {ns : List Str} {us : List Value}, ns.Nodup → us.length = ns.length → ns.filterMap (fun n => ((ns.zip us).lookup n).map fun v => (n, v)) = ns.zip us
  | [], [], _, _ => rfl
  | [], _ :: _, _, h => by cases h
  | _ :: _, [], _, h => by cases h
  | m :: ns, u :: us, nd, hl => by
    obtain ⟨n1, n2⟩ := List.nodup_cons.mp nd
    have i := filt_zip (us := us) n2 (by simpa using hl)
    rw [List.zip_cons_cons, List.filterMap_cons, List.lookup_cons]
    simp only [beq_self_eq_true, Option.map_some]
    congr 1
    refine Eq.trans (fm_congr fun n hn => ?_) i
    rw [List.lookup_cons]
    have : (n == m) = false := beq_eq_false_iff_ne.mpr fun e => n1 (e ▸ hn)
    rw [this]

theorem lookup_zip_no : ∀ {ns : List Str} {us : List Value} {n : Str}, n ∉ ns → (ns.zip us).lookup n = none
  | [], _, _, _ => rfl
  | _ :: _, [], _, _ => rfl
  | m :: ns, u :: us, n, h => by
    rw [List.zip_cons_cons, List.lookup_cons]
    have e : (n == m) = false := beq_eq_false_iff_ne.mpr fun e => h (e ▸ List.mem_cons_self)
    rw [e]
    exact lookup_zip_no fun q => h (List.mem_cons_of_mem _ q)
theorem lookup_app_no {ns : List Str} {us : List Value} {n : Str} {v : Value} (h : n ∉ ns) : ((ns.zip us) ++ [(n, v)]).lookup n = some v := by
  rw [List.lookup_append, lookup_zip_no h]
  simp
theorem lookup_app_yes {l l' : List (Str × Value)} {n : Str} (h : (l.lookup n).isSome = true) : ((l ++ l').lookup n).isNone = false := by
  rw [List.lookup_append]
  cases e : l.lookup n with
  | none => rw [e] at h; cases h
  | some v => rfl
theorem bind_kw1 {x qual : Str} {as : List Arg} {ka : Arg} {kd : Option Expr} {body : List Stmt} {scope : Scope} {kV doc pm : Value} {an : Option Addr} {cdv ct : Value} {us : List Value} {w : Value} (nd : (as.map (·.arg) ++ [ka.arg]).Nodup) (hl : us.length = as.length) :
  bindArgs (PySem.W.fnOf x qual ⟨[], as, none, [ka], [kd], none, []⟩ body scope .none kV doc pm an cdv ct) ⟨us, [(ka.arg, w)]⟩ = pure ((as.map (·.arg) ++ [ka.arg]).zip (us ++ [w])) := by
  have hl' : us.length = (as.map (·.arg)).length := by rw [List.length_map]; exact hl
  have hk : ka.arg ∉ as.map (·.arg) := fun q => (List.nodup_append.mp nd).2.2 _ q _ (List.mem_singleton.mpr rfl) rfl
  have n1 : ((as.map (·.arg)).zip us).lookup ka.arg = none := lookup_zip_no hk
  have n2 : ((as.map (·.arg)).zip us ++ [(ka.arg, w)]).lookup ka.arg = some w := lookup_app_no hk
  have hm : ((as.map (·.arg)).filter fun n => (((as.map (·.arg)).zip us ++ [(ka.arg, w)]).lookup n).isNone) = [] := by
    rw [List.filter_eq_nil_iff]
    intro n hn
    rw [lookup_app_yes (lookup_zip hl' hn)]
    exact Bool.false_ne_true
  have ez : (as.map (·.arg) ++ [ka.arg]).zip (us ++ [w]) = (as.map (·.arg)).zip us ++ [(ka.arg, w)] := by
    rw [List.zip_append hl'.symm]
    rfl
  have hz := filt_zip (us := us ++ [w]) nd (by simp [hl'])
  rw [ez] at hz
  unfold bindArgs PySem.W.fnOf
  simp only [List.map_nil, List.nil_append, List.forIn_nil, pure_bind]
  have e : seqItems? .none = pure none := rfl
  rw [e]
  have c1 : ((as.map (·.arg)).contains ka.arg || [ka.arg].contains ka.arg) = true := by simp
  simp only [List.forIn_cons, List.forIn_nil, pure_bind, List.map_cons, List.map_nil, c1, if_true, n1, Option.isSome_none, Bool.false_eq_true, if_false, Option.getD_none, List.drop_nil, List.length_nil, Nat.sub_zero, List.take_length, hm, List.append_nil, hl', n2, Option.isNone_some]
  rw [if_neg (by simp)]
  simp only [pure_bind, List.isEmpty_nil, Bool.not_true, Bool.false_eq_true, if_false, List.drop_length, List.zip_nil_left, List.forIn_nil, hz]
  rw [n2]
  simp only [Option.isNone_some, Bool.false_eq_true, if_false, pure_bind, List.isEmpty_nil, Bool.not_true]
  rw [hz, ez]
theorem bind_kw0 {x qual : Str} {as : List Arg} {ka : Arg} {kd : Option Expr} {body : List Stmt} {scope : Scope} {doc pm : Value} {an : Option Addr} {cdv ct : Value} {us ks : List Value} {D : Addr} (nd : (as.map (·.arg) ++ [ka.arg]).Nodup) (hl : us.length = as.length) (h1 : ks.length = 1) :
  KwChain D ([ka.arg].zip ks) (bindArgs (PySem.W.fnOf x qual ⟨[], as, none, [ka], [kd], none, []⟩ body scope .none (.ref D) doc pm an cdv ct) ⟨us, []⟩) ((as.map (·.arg) ++ [ka.arg]).zip (us ++ ks)) := by
  obtain ⟨w, rfl⟩ : ∃ w, ks = [w] := by
    match ks, h1 with
    | [w], _ => exact ⟨w, rfl⟩
  have hl' : us.length = (as.map (·.arg)).length := by rw [List.length_map]; exact hl
  have hk : ka.arg ∉ as.map (·.arg) := fun q => (List.nodup_append.mp nd).2.2 _ q _ (List.mem_singleton.mpr rfl) rfl
  have n1 : ((as.map (·.arg)).zip us).lookup ka.arg = none := lookup_zip_no hk
  have hm : ((as.map (·.arg)).filter fun n => (((as.map (·.arg)).zip us).lookup n).isNone) = [] := by
    rw [List.filter_eq_nil_iff]
    intro n hn
    have := lookup_zip hl' hn
    cases h : ((as.map (·.arg)).zip us).lookup n with
    | none => rw [h] at this; cases this
    | some _ => simp
  have ez : (as.map (·.arg) ++ [ka.arg]).zip (us ++ [w]) = (as.map (·.arg)).zip us ++ [(ka.arg, w)] := by
    rw [List.zip_append hl'.symm]
    rfl
  have hz := filt_zip (us := us ++ [w]) nd (by simp [hl'])
  rw [ez] at hz
  unfold bindArgs PySem.W.fnOf
  simp only [List.map_nil, List.nil_append, List.forIn_nil, pure_bind]
  have e : seqItems? .none = pure none := rfl
  rw [e]
  simp only [List.forIn_cons, List.forIn_nil, pure_bind, List.map_cons, List.map_nil, Option.isSome_none, Bool.false_eq_true, if_false, Option.getD_none, List.drop_nil, List.length_nil, Nat.sub_zero, List.take_length, hm, List.append_nil, hl']
  rw [if_neg (by simp)]
  simp only [pure_bind, List.isEmpty_nil, Bool.not_true, Bool.false_eq_true, if_false, List.drop_length, List.zip_nil_left, List.forIn_nil, n1, Option.isNone_none, if_true]
  refine ⟨_, _, _, _, _, _, rfl, rfl, ?_⟩
  show _ = _
  simp only [pure_bind, List.isEmpty_nil, Bool.not_true, Bool.false_eq_true, if_false, ez]
  rw [hz]
theorem kw_binds {K : PySem.W.Frag} {x qual : Str} {as : List Arg} {ka : Arg} {kd : Option Expr} {body : List Stmt} {scope : Scope} {v0 : V} {f : Addr} {fd : FuncData} (F : FunD K x qual ⟨[], as, none, [ka], [kd], none, []⟩ body scope [] [(ka.arg, v0)] f fd) (nd : (as.map (·.arg) ++ [ka.arg]).Nodup) :
    ∃ u0, RelV v0 u0 ∧ Binds K fd (as.map (·.arg) ++ [ka.arg]) [u0] ∧ KBn K fd (as.map (·.arg) ++ [ka.arg]) (as.map (·.arg)).length [ka.arg] (fun us ws => us ++ ws) (fun vs zs => vs ++ zs) := by
  obtain ⟨ds, r, hb⟩ := F.binds0 (ps := as.map (·.arg) ++ [ka.arg]) (as.map (·.arg)).length (fun h => nomatch h) (by simp) fun D doc pm an cdv ct us ks l1 l2 => bind_kw0 nd (by rw [l1, List.length_map]) l2
  cases r with
  | cons r1 r2 =>
    cases r2
    obtain ⟨mv, hk⟩ := F.kbinds0 (ps := as.map (·.arg) ++ [ka.arg]) (as.map (·.arg)).length [ka.arg] [] (fun vs _ zs => vs ++ zs) (fun h => nomatch h) (fun _ h => nomatch h) (fun h1 _ h3 => h1.append h3) fun D doc pm an cdv ct us mv ws l1 l2 l3 => by
      obtain ⟨w, rfl⟩ : ∃ w, ws = [w] := by
        match ws, l3 with
        | [w], _ => exact ⟨w, rfl⟩
      have : mv = [] := List.length_eq_zero_iff.mp l2
      subst this
      exact bind_kw1 nd (by rw [l1, List.length_map])
    exact ⟨_, r1, hb, hk⟩
end Iv

set_option maxRecDepth 100000
set_option maxHeartbeats 4000000
/-! IvO: t[::-1], t a tuple. -/
namespace Iv
open PySem PySem.Spec PyProof.Rows L2 HT
section
variable {prog : Program} {w : World} {A : Around} {E : Value → Shared → Prop} {s : Shared}
theorem sliceApplied_rev {sl : Addr} {vl vu vs : Value} {n : Nat} {Q : Int × Int × Nat → Shared → Prop} (hs : s.heap.IsSliceOf sl vl vu vs) (pl : IsPart vl none) (pu : IsPart vu none) (ps : IsPart vs (some (-1)))
    (h : Q ((n : Int) - 1, -1, n) s) : wpAny (model prog w) A (Builtin.Slice.sliceApplied (.ref sl) (pure (n : Int))) Q E s := by
  obtain ⟨os, hos, hcs, hds⟩ := id hs
  unfold Builtin.Slice.sliceApplied Builtin.Slice.sliceFields
  refine wpAny_bind (wpAny_bind (wpAny_field hos hds (x := vl) rfl (wpAny_bind (wpAny_field hos hds (x := vu) rfl (wpAny_bind (wpAny_field hos hds (x := vs) rfl (wpAny_pure ?_)))))))
  refine wpAny_bind (slicePart_ ps ?_)
  show wpAny _ _ (if ((-1 : Int) == 0) = true then _ else _) _ _ s
  rw [if_neg (by decide)]
  refine wpAny_bind (slicePart_ pl (wpAny_bind (slicePart_ pu (wpAny_bind (wpAny_pure ?_)))))
  show wpAny _ _ (match Builtin.Slice.sliceAdjust none none (-1) (n : Int) with | (lo, hi) => pure (lo, (-1 : Int), Builtin.Slice.slicePlaces lo hi (-1))) _ _ s
  have e : Builtin.Slice.sliceAdjust none none (-1) (n : Int) = ((n : Int) - 1, -1) := rfl
  rw [e]
  show wpAny _ _ (pure ((n : Int) - 1, (-1 : Int), Builtin.Slice.slicePlaces ((n : Int) - 1) (-1) (-1))) _ _ s
  have e2 : Builtin.Slice.slicePlaces ((n : Int) - 1) (-1) (-1) = n := by
    unfold Builtin.Slice.slicePlaces
    have h1 : ¬ ((-1 : Int) > 0) := by omega
    rw [if_neg h1]
    have : -(-1 : Int) = 1 := rfl
    rw [this, Int.ediv_one]
    split <;> omega
  rw [e2]
  exact wpAny_pure h
theorem pick_rev (xs : Array Value) : ((List.range xs.size).filterMap fun (m : Nat) => xs[((xs.size : Int) - 1 + (m : Int) * (-1)).toNat]?).toArray = xs.toList.reverse.toArray := by
  congr 1
  apply List.ext_getElem?
  intro i
  have e : (List.range xs.size).filterMap (fun (m : Nat) => xs[((xs.size : Int) - 1 + (m : Int) * (-1)).toNat]?) = (List.range xs.size).map fun m => (xs[xs.size - 1 - m]?).getD .none := by
    rw [← List.filterMap_eq_map]
    refine fm_congr fun m hm => ?_
    have hm := List.mem_range.mp hm
    have : ((xs.size : Int) - 1 + (m : Int) * (-1)).toNat = xs.size - 1 - m := by omega
    rw [this]
    have lt : xs.size - 1 - m < xs.size := by omega
    simp [Array.getElem?_eq_getElem lt]
  rw [e]
  by_cases hi : i < xs.size
  · rw [List.getElem?_map, List.getElem?_range hi, List.getElem?_reverse (by simpa using hi)]
    have lt : xs.size - 1 - i < xs.size := by omega
    simp [Array.getElem?_eq_getElem lt]
  · rw [List.getElem?_eq_none (by simpa using hi), List.getElem?_eq_none (by simpa using hi)]
theorem getItem_tuple_rev {t sl : Addr} {items : Array Value} {vl vu vs : Value} {Q : Value → Shared → Prop} (ht : IsTup s.heap t items) (hs : s.heap.IsSliceOf sl vl vu vs) (pl : IsPart vl none) (pu : IsPart vu none) (ps : IsPart vs (some (-1)))
    (h : Q (.ref s.heap.objs.size) { s with heap := s.heap.push { cls := .type "tuple", data := .seq items.toList.reverse.toArray } })
    (hsz : items.size ≤ sizeLine) : wpAny (model prog w) A (getItem (.ref t) (.ref sl)) Q E s := by
  have htake : sizeOk (.seq items.toList.reverse.toArray) := by
    show items.toList.reverse.toArray.size ≤ sizeLine
    rw [List.size_toArray, List.length_reverse, Array.length_toList]
    exact hsz
  obtain ⟨os, hos, hcs, hds⟩ := id hs
  have hTs : s.TypeIs (.ref sl) "slice" := ⟨os, hos, hcs⟩
  unfold getItem
  try with_reducible refine wpAny_holding ?_
  first | refine wpAny_bind (wpAny_pure ?_) | skip
  refine wpAny_bind (wpAny_sequenceKey ht.typeIs (by decide) ?_)
  refine wpAny_bind (wpAny_callSpecial?_slot (name := Str.ofString "__getitem__") ht.typeIs PyProof.Rows.slot_tuple_getitem
    (wpAny_call_entry PyProof.Rows.slot_tuple_getitem ht.typeIs entry_tuple_getitem ?_ (args_tuple_getitem _ _)))
  show wpAny _ _ (Builtin.Tuple.tupleItemsOf (.ref t) >>= _) _ _ s
  refine wpAny_bind (tupleItemsOf_ ht ?_)
  refine wpAny_bind (wpAny_typeOf hTs ?_)
  rw [if_pos (by decide)]
  refine wpAny_bind (sliceApplied_rev hs pl pu ps ?_)
  have hno : ¬ ((((items.size : Int) - 1) == 0 && (-1 : Int) == 1 && items.size == items.size) = true) := by
    intro q
    rw [Bool.and_eq_true, Bool.and_eq_true] at q
    exact absurd (eq_of_beq q.1.2) (by decide)
  show wpAny _ _ (if (((items.size : Int) - 1) == 0 && (-1 : Int) == 1 && items.size == items.size) = true then _ else _) _ _ s
  rw [if_neg hno, pick_rev]
  first
    | exact wpAny_bind (m := Builtin.Tuple.tupleExact _) (wpAny_newObj_type (wpAny_pure ⟨_, rfl, wpAny_pure h⟩) htake)
    | exact wpAny_bind (m := Builtin.Tuple.tupleExact _) (wpAny_newObj_type (wpAny_bind (wpAny_pure (wpAny_pure ⟨_, rfl, wpAny_pure h⟩))) htake)
    | exact wpAny_bind (wpAny_bind (m := Builtin.Tuple.tupleExact _) (wpAny_newObj_type (wpAny_pure (wpAny_pure ⟨_, rfl, wpAny_pure h⟩)) htake))
    | exact wpAny_bind (wpAny_bind (m := Builtin.Tuple.tupleExact _) (wpAny_newObj_type (wpAny_pure ⟨_, rfl, wpAny_pure h⟩) htake))
end
section
variable {X : Cx}
/-- xs[::-1], a list or a tuple -/
def tRevA (K : PySem.W.Frag) (te : TE) : TE := fun σ H Q => te σ H fun x H1 => ∃ a xs, x = .ref a ∧ ((SqL K H1 a xs ∧ ∀ p, H1 p = none → Q (.ref p) (upd H1 p (.lst xs.reverse))) ∨ (SqT K H1 a xs ∧ ∀ o p, H1 p = none → o.dict = none → Q (.ref p) (upd H1 p (.frz o (.tup xs.reverse)))))
theorem pe_revA {e : Expr} {te : TE} {k : Nat} {p1 p2 p3 pos : Pos} (he : PE X e te) : PE X (.Subscript e (.Slice none none (some (.UnaryOp .USub (.Constant (.int 1) k p1) p2)) p3) pos) (tRevA X.K te) := by
  refine ⟨fun pins s σ H Q I h => ?_⟩
  refine Subscript_ (thn (he.run pins s σ H _ I h) fun v s1 ⟨x, H1, I1, r1, q1⟩ => ?_)
  obtain ⟨a, xs, ex, q1⟩ := q1
  subst ex
  cases r1
  have hst : PO X (some (.UnaryOp .USub (.Constant (.int 1) k p1) p2)) (tPart (tUn (rU fun i => V.int (-i)) (L2.tC (V.int 1)))) := po_some (pe_un un_neg pe_int)
  refine wpAny_Slice (thn (po_none.run pins s1 σ H1 (fun o H2 => o = none ∧ H2 = H1) I1 ⟨rfl, rfl⟩) fun vl s2 ⟨l, H2, I2, pl, el, e2⟩ => ?_)
  subst el e2
  refine thn (po_none.run pins s2 σ H2 (fun o H3 => o = none ∧ H3 = H2) I2 ⟨rfl, rfl⟩) fun vu s3 ⟨u, H3, I3, pu, eu, e3⟩ => ?_
  subst eu e3
  refine thn (hst.run pins s3 σ H3 (fun o H4 => o = some (-1) ∧ H4 = H3) I3 ⟨1, rfl, -1, rfl, rfl, rfl⟩) fun vs s4 ⟨o, H4, I4, ps, eo, e4⟩ => ?_
  subst eo e4
  have I5 : Inv X pins σ H4 { s4 with heap := s4.heap.push { cls := .type "slice", data := .fields #[vl, vu, vs] } } := I4.kept (t' := s4.toks) fun b ob q => Heap.get?_push_of_some _ q
  rcases q1 with ⟨hx, q⟩ | ⟨hx, q⟩
  · obtain ⟨its, r, ht, hz⟩ := I5.list hx
    have hlen := r.length
    show wpAny (model X.prog X.w) X.A (subscriptTail e (.Slice none none (some (.UnaryOp .USub (.Constant (.int 1) k p1) p2)) p3) (.ref a) (.ref s4.heap.objs.size)) (EP X pins σ Q) X.xe { s4 with heap := s4.heap.push { cls := .type "slice", data := .fields #[vl, vu, vs] } }
    refine tail_any (ops := [.ref a, .ref s4.heap.objs.size]) ht.isList.typeIs (PySem.slot_list_getitem.lookup) ?_ (by with_unfolding_all rfl)
    refine wpAny_getItem_list_slice ht.isList (Heap.IsSliceOf.new _ vl vu vs) pl pu ps (by decide) ?_ (by rw [List.size_toArray]; omega)
    rw [PySem.W.krv_pick]
    refine ⟨.ref _, _, I5.laid (t' := s4.toks) (o := .lst xs.reverse) (fun b ob q => Heap.get?_push_of_some _ q) (Nat.le_refl _) ?_, rfl, q _ (I5.hok.fresh (Nat.le_refl _))⟩
    exact ⟨by rw [List.length_reverse]; exact hz, _, 0, r.reverse, Heap.get?_push_size _ rfl⟩
  · obtain ⟨its, r, ht, hz⟩ := I5.tuple hx
    have hlen := r.length
    show wpAny (model X.prog X.w) X.A (subscriptTail e (.Slice none none (some (.UnaryOp .USub (.Constant (.int 1) k p1) p2)) p3) (.ref a) (.ref s4.heap.objs.size)) (EP X pins σ Q) X.xe { s4 with heap := s4.heap.push { cls := .type "slice", data := .fields #[vl, vu, vs] } }
    refine tail_any (ops := [.ref a, .ref s4.heap.objs.size]) ht.typeIs (PyProof.Rows.slot_tuple_getitem.lookup) ?_ (by with_unfolding_all rfl)
    refine getItem_tuple_rev ht (Heap.IsSliceOf.new _ vl vu vs) pl pu ps ?_ (by rw [List.size_toArray]; omega)
    obtain ⟨hp, gg, dd, tt, oo⟩ := s4
    exact ⟨.ref _, _, tup_laid I5 r.reverse (by rw [List.length_reverse]; exact hz), rfl, q _ _ (I5.hok.fresh (Nat.le_refl _)) rfl⟩
end
end Iv

set_option maxRecDepth 100000
/-! IvM: calls with a keyword, xs[::-1]. -/
namespace Iv
open PySem PySem.Spec PyProof.Rows L2
section
variable {X : Cx} {ca : Nat → Addr} {E : XK} {F : Fns}
/-- xs[::-1] -/
theorem e_rev {e : Expr} {ie : IE} {k : Nat} {p1 p2 p3 pos : Pos} (he : PE X e (tE (gX X ca) E F ie)) : PE X (.Subscript e (.Slice none none (some (.UnaryOp .USub (.Constant (.int 1) k p1) p2)) p3) pos) (tE (gX X ca) E F (.rev ie)) := by
  refine PE.imp (pe_revA he) fun σ H Q q => ?_
  obtain ⟨μ, ρ, S, r, sl, p⟩ := q
  have p : Post (gX X ca) E ((evE F ie ρ S).bind fun x S1 => match x with
    | .loc n => match lstAt S1 n with
      | some xs => newC (.lst xs.reverse) S1
      | none => .bad
    | .tup xs => .ok (.tup xs.reverse) S1
    | _ => .bad) μ H fun d _ μ' H' => ∀ v, Rep X.K μ' H' d v → Q v H' := p
  refine one r sl p fun x H1 d S1 μ1 e1 r1 hx p1 => ?_
  cases d with
  | loc n =>
    have p1 : Post (gX X ca) E (match lstAt S1 n with
      | some xs => newC (.lst xs.reverse) S1
      | none => .bad) μ1 H1 _ := p1
    cases hl : lstAt S1 n with
    | none => rw [hl] at p1; exact p1.elim
    | some xs =>
      rw [hl] at p1
      have hs : S1[n]? = some (.lst xs) := by
        unfold lstAt at hl
        split at hl
        · cases hl
          assumption
        · cases hl
      obtain ⟨a, vs, _, rfl, h1, h2⟩ := r1.lstAt hx hs
      exact ⟨a, vs, rfl, .inl ⟨.of h1, fun p hp => Post.lst p1 r1 h2.rev hp⟩⟩
  | tup xs =>
    have p1 : Post (gX X ca) E (.ok (D.tup xs.reverse) S1) μ1 H1 _ := p1
    obtain ⟨a, vs, rfl, h1, h2⟩ := hx
    exact ⟨a, vs, rfl, .inr ⟨h1.sq, fun o p hp ho => Post.tup p1 r1 h2.rev hp ho⟩⟩
  | _ => exact p1.elim
/-- a def with one keyword-only parameter -/
structure OwnK (X : Cx) (F : Fns) (ca : Nat → Addr) (k : Nat) (f : Nat) (x : PySem.Str) (ps : List PySem.Str) (kw : Str) (d0 : D) : Prop where
  ex : ∃ (a : Addr) (fd : FuncData) (v0 : V) (u0 : Value), X.mg x = some (.ref a) ∧ PySem.W.keepIn X.K (.ref a) = true ∧ Binds X.K fd (ps ++ [kw]) [u0] ∧ RelV v0 u0 ∧ (∀ μ H, Rep X.K μ H d0 v0) ∧ KBn X.K fd (ps ++ [kw]) ps.length [kw] (fun us ws => us ++ ws) (fun vs zs => vs ++ zs) ∧
    FnG X.prog X.w X.K X.mg X.base (L2.CX X.prog X.w) k a fd (ps ++ [kw]) (spOf (gX X ca) (F f))
theorem run_G {a : Addr} {fd : FuncData} {ps : List PySem.Str} {k : Nat} {sp : Sp} {pins : List (Addr × Obj)} {s : Shared} {σ : L2.St} {H : Hp} {Q : VK} {us : List Value} {kws : List (Str × Value)} {ws : List Value} {vs : List V} (G1 : FnG X.prog X.w X.K X.mg X.base (L2.CX X.prog X.w) k a fd ps sp) (hr : Room k X.A) (hg : X.A.guards = some [])
    (hx : Passes (L2.CX X.prog X.w) X E) (I : Inv X pins σ H s) (hb : BindsTo s fd ⟨us, kws⟩ (ps.zip ws)) (r : Vals vs ws) (h : sp vs H Q E) : wpAny (model X.prog X.w) X.A (call (.ref a) us kws) (EP X pins σ Q) X.xe s := by
  refine wpAny_call (codeAny_mono (G1.run X.A X.stack s H ⟨us, kws⟩ ws vs Q E hr hg I.env0 hb r h) fun r2 s' hq => ?_)
  rcases r2 with e | (_ | u | _ | _)
  · exact hx pins σ H s e s' I hq
  all_goals first | exact I.after hq | exact False.elim hq
/-- the default -/
theorem e_call0 {f : Nat} {x : PySem.Str} {ps : List PySem.Str} {kw : Str} {d0 : D} {k : Nat} {e : Expr} {es : List Expr} {ies : IEs} {p pos : Pos} (O : OwnK X F ca k f x ps kw d0) (hr : Room k X.A) (hg : X.A.guards = some []) (hx : Passes (L2.CX X.prog X.w) X E) (hgl : Gl X x) (hd : (x == ("__debug__" : PySem.Str)) = false)
    (ha : PA X (e :: es) (tEs (gX X ca) E F ies)) (hs : (e :: es).all nst = true) : PE X (.Call (.Name x p) (e :: es) [] pos) (tE (gX X ca) E F (.callk f ies (.con d0) false)) := by
  obtain ⟨a, fd, v0, u0, hm, hk, hb, rv0, hrep, _, G1⟩ := O.ex
  refine ⟨fun pins s σ H Q I q => ?_⟩
  obtain ⟨μ, ρ, S, r, sl, p⟩ := q
  have p : Post (gX X ca) E ((evEs F ies ρ S).bind fun ds S1 => (Out.ok d0 S1).bind fun d S2 => F f (ds ++ [d]) S2) μ H fun d _ μ' H' => ∀ v, Rep X.K μ' H' d v → Q v H' := p
  refine wpAny_Call_Name_kw (ld_glob I hgl hm ?_ hd)
  have hq := Bool.and_eq_true_iff.mp hs
  refine PySem.W.callWith_K (h₀ := X.base) I.ok.mod.kin hk (thn (ha.run pos pins s σ H (fun xs H1 => ∃ μ1 S1 ds, Rel (gX X ca) μ1 S1 H1 ∧ Reps X.K μ1 H1 ds xs ∧ Post (gX X ca) E (F f (ds ++ [d0]) S1) μ1 H1 fun d2 _ μ' H' => ∀ v, Rep X.K μ' H' d2 v → Q v H') I
    (many r sl p fun xs H1 ds S1 μ1 e1 r1 hxs p1 => ⟨μ1, S1, ds, r1, hxs, p1⟩)) fun us s1 ⟨vs, H1, I1, rv, μ1, S1, ds, r1, hxs, q1⟩ => ⟨I1.kIn, ?_⟩) (star_cons hq.1) (star_any hq.2)
  have sp1 : spOf (gX X ca) (F f) (vs ++ [v0]) H1 Q E := ⟨μ1, S1, ds ++ [d0], r1, Reps.app hxs (Reps.one (hrep μ1 H1)), q1⟩
  have rv1 : Vals (vs ++ [v0]) (us ++ [u0]) := rv.append (.cons rv0 .nil)
  have hl : (us ++ [u0]).length = (ps ++ [kw]).length := by
    rw [← rv1.length]
    exact G1.len _ _ _ _ sp1
  exact run_G G1 hr hg hx I1 (hb s1 us I1.kIn hl) rv1 sp1
/-- written -/
theorem e_call1 {f : Nat} {x : PySem.Str} {ps : List PySem.Str} {kw : Str} {d0 : D} {k : Nat} {e v : Expr} {es : List Expr} {ies : IEs} {ik : IE} {p pos kpos : Pos} (O : OwnK X F ca k f x ps kw d0) (hr : Room k X.A) (hg : X.A.guards = some []) (hx : Passes (L2.CX X.prog X.w) X E) (hgl : Gl X x) (hd : (x == ("__debug__" : PySem.Str)) = false)
    (ha : PA X (e :: es) (tEs (gX X ca) E F ies)) (hv : PE X v (tE (gX X ca) E F ik)) (hs : (e :: es).all nst = true) (hn : (e :: es).length = ps.length) (hE : ∀ ρ S ds S1, evEs F ies ρ S = .ok ds S1 → ds.length = (e :: es).length) :
    PE X (.Call (.Name x p) (e :: es) [⟨some kw, v, kpos⟩] pos) (tE (gX X ca) E F (.callk f ies ik true)) := by
  obtain ⟨a, fd, v0, u0, hm, hk, _, _, _, hb, G1⟩ := O.ex
  refine ⟨fun pins s σ H Q I q => ?_⟩
  obtain ⟨μ, ρ, S, r, sl, p⟩ := q
  have p : Post (gX X ca) E ((evEs F ies ρ S).bind fun ds S1 => (evE F ik ρ S1).bind fun d S2 => F f (ds ++ [d]) S2) μ H fun d _ μ' H' => ∀ v, Rep X.K μ' H' d v → Q v H' := p
  refine wpAny_Call_Name_kw (ld_glob I hgl hm ?_ hd)
  have hq := Bool.and_eq_true_iff.mp hs
  refine PySem.W.callWith_KW (h₀ := X.base) I.ok.mod.kin hk rfl (thn (ha.run pos pins s σ H (fun xs H1 => xs.length = ps.length ∧ ∃ μ1 S1 ds, Rel (gX X ca) μ1 S1 H1 ∧ Reps X.K μ1 H1 ds xs ∧ Ext X.K μ μ1 H H1 ∧ Post (gX X ca) E ((evE F ik ρ S1).bind fun d S2 => F f (ds ++ [d]) S2) μ1 H1 fun d2 _ μ' H' => ∀ v, Rep X.K μ' H' d2 v → Q v H') I ?_)
    fun us s1 ⟨vs, H1, I1, rv, hvl, μ1, S1, ds, r1, hxs, e1, q1⟩ => ?_) ?_ (star_cons hq.1)
  · have p2 := p.bind
    cases he : evEs F ies ρ S with
    | ok ds0 S0 =>
      rw [he] at p2
      refine ⟨μ, ρ, S, r, sl, ?_⟩
      rw [he]
      intro μ' H' e' r' xs hxs
      exact ⟨by rw [← hxs.length, hE _ _ _ _ he, hn], μ', S0, ds0, r', hxs, e', p2 μ' H' e' r'⟩
    | ex c fs S0 =>
      refine ⟨μ, ρ, S, r, sl, ?_⟩
      rw [he] at p2 ⊢
      exact p2
    | bad => rw [he] at p2; exact p2.elim
  · refine thn ((pk_cons hv pk_nil).run pos pins s1 σ H1 (fun zs H2 => ∃ z μ2 S2 d, zs = [z] ∧ Rel (gX X ca) μ2 S2 H2 ∧ Reps X.K μ2 H2 (ds ++ [d]) (vs ++ [z]) ∧ Post (gX X ca) E (F f (ds ++ [d]) S2) μ2 H2 fun d2 _ μ' H' => ∀ v, Rep X.K μ' H' d2 v → Q v H') I1
      (one r1 (sl.mono e1) q1 fun z H2 d S2 μ2 e2 r2 hz p2 => ⟨z, μ2, S2, d, rfl, r2, Reps.app (Reps.mono e2 hxs) (Reps.one hz), p2⟩)) fun ws s2 ⟨zs, H2, I2, rz, z, μ2, S2, d, ez, r2, hxz, q2⟩ => ⟨I2.kIn, ?_⟩
    subst ez
    have l1 : us.length = ps.length := by rw [← rv.length, hvl]
    have l2 : ws.length = [kw].length := by rw [← rz.length]; rfl
    exact run_G G1 hr hg hx I2 (hb.to s2 us ws I2.kIn l1 l2) (hb.rel rv rz) ⟨μ2, S2, _, r2, hxz, q2⟩
  · rw [star_cons hq.1]
    show ((false || (backTo pos (starEach es X.env)).any (·.1)) || false) = false
    rw [star_any hq.2]
    rfl
theorem run_GS {E : XS} {a : Addr} {fd : FuncData} {ps : List PySem.Str} {k : Nat} {sp : Sp} {pins : List (Addr × Obj)} {s : Shared} {σ : L2.St} {H : Hp} {Q : VK} {us : List Value} {kws : List (Str × Value)} {ws : List Value} {vs : List V} (G1 : FnG X.prog X.w X.K X.mg X.base (L2.CX X.prog X.w) k a fd ps sp) (hr : Room k X.A) (hg : X.A.guards = some [])
    (hx : PassesAt (L2.CX X.prog X.w) X σ (E σ)) (I : Inv X pins σ H s) (hb : BindsTo s fd ⟨us, kws⟩ (ps.zip ws)) (r : Vals vs ws) (h : sp vs H Q (E σ)) : wpAny (model X.prog X.w) X.A (call (.ref a) us kws) (EP X pins σ Q) X.xe s := by
  refine wpAny_call (codeAny_mono (G1.run X.A X.stack s H ⟨us, kws⟩ ws vs Q (E σ) hr hg I.env0 hb r h) fun r2 s' hq => ?_)
  rcases r2 with e | (_ | u | _ | _)
  · exact hx pins H s e s' I hq
  all_goals first | exact I.after hq | exact False.elim hq
/-- in a try's body: the keyword written -/
theorem ix_callk {E : XS} {f : Nat} {x : PySem.Str} {ps : List PySem.Str} {kw : Str} {d0 : D} {k : Nat} {e v : Expr} {es : List Expr} {ies : IEs} {ik : IE} {p pos kpos : Pos} (O : OwnK X F ca k f x ps kw d0) (hr : Room k X.A) (hg : X.A.guards = some []) (hx : ∀ σ, PassesAt (L2.CX X.prog X.w) X σ (E σ)) (hgl : Gl X x) (hd : (x == ("__debug__" : PySem.Str)) = false)
    (ha : PA X (e :: es) (tEs (gX X ca) E0 F ies)) (hv : PE X v (tE (gX X ca) E0 F ik)) (hs : (e :: es).all nst = true) (hn : (e :: es).length = ps.length) (hE : ∀ ρ S ds S1, evEs F ies ρ S = .ok ds S1 → ds.length = (e :: es).length) :
    PE X (.Call (.Name x p) (e :: es) [⟨some kw, v, kpos⟩] pos) (tIX (gX X ca) E F (.callk f ies ik)) := by
  obtain ⟨a, fd, v0, u0, hm, hk, _, _, _, hb, G1⟩ := O.ex
  refine ⟨fun pins s σ H Q I q => ?_⟩
  obtain ⟨μ, ρ, S, r, sl, p⟩ := q
  have p : Post (gX X ca) (E σ) (match evEs F ies ρ S with
    | .ok ds S1 => (match evE F ik ρ S1 with
      | .ok d S2 => F f (ds ++ [d]) S2
      | _ => .bad)
    | _ => .bad) μ H fun d _ μ' H' => ∀ v, Rep X.K μ' H' d v → Q v H' := p
  cases h : evEs F ies ρ S with
  | ok ds S1 =>
    rw [h] at p
    have p : Post (gX X ca) (E σ) (match evE F ik ρ S1 with
      | .ok d S2 => F f (ds ++ [d]) S2
      | _ => .bad) μ H _ := p
    cases h2 : evE F ik ρ S1 with
    | ok d S2 =>
      rw [h2] at p
      have p : Post (gX X ca) (E σ) (F f (ds ++ [d]) S2) μ H fun d _ μ' H' => ∀ v, Rep X.K μ' H' d v → Q v H' := p
      refine wpAny_Call_Name_kw (ld_glob I hgl hm ?_ hd)
      have hq := Bool.and_eq_true_iff.mp hs
      refine PySem.W.callWith_KW (h₀ := X.base) I.ok.mod.kin hk rfl (thn (ha.run pos pins s σ H (fun xs H1 => xs.length = ps.length ∧ ∃ μ1, Rel (gX X ca) μ1 S1 H1 ∧ Reps X.K μ1 H1 ds xs ∧ Ext X.K μ μ1 H H1) I
          ⟨μ, ρ, S, r, sl, by rw [h]; exact fun μ' H' e' r' xs hxs => ⟨by rw [← hxs.length, hE _ _ _ _ h, hn], μ', r', hxs, e'⟩⟩)
        fun us s1 ⟨vs, H1, I1, rv, hvl, μ1, r1, hxs, e1⟩ => ?_) ?_ (star_cons hq.1)
      · refine thn ((pk_cons hv pk_nil).run pos pins s1 σ H1 (fun zs H2 => ∃ z μ2, zs = [z] ∧ Rel (gX X ca) μ2 S2 H2 ∧ Reps X.K μ2 H2 (ds ++ [d]) (vs ++ [z]) ∧ Ext X.K μ μ2 H H2) I1
          ⟨μ1, ρ, S1, r1, sl.mono e1, by rw [h2]; exact fun μ' H' e' r' z hz => ⟨z, μ', rfl, r', Reps.app (Reps.mono e' hxs) (Reps.one hz), e1.trans e'⟩⟩) fun ws s2 ⟨zs, H2, I2, rz, z, μ2, ez, r2, hxz, e2⟩ => ⟨I2.kIn, ?_⟩
        subst ez
        have l1 : us.length = ps.length := by rw [← rv.length, hvl]
        have l2 : ws.length = [kw].length := by rw [← rz.length]; rfl
        exact run_GS G1 hr hg (hx σ) I2 (hb.to s2 us ws I2.kIn l1 l2) (hb.rel rv rz) ⟨μ2, S2, _, r2, hxz, Post.pre e2 p⟩
      · rw [star_cons hq.1]
        show ((false || (backTo pos (starEach es X.env)).any (·.1)) || false) = false
        rw [star_any hq.2]
        rfl
    | ex _ _ _ => rw [h2] at p; exact p.elim
    | bad => rw [h2] at p; exact p.elim
  | ex _ _ _ => rw [h] at p; exact p.elim
  | bad => rw [h] at p; exact p.elim
end
end Iv

set_option maxRecDepth 10000
/-! Iv17: which program text an expression of the small language stands for. -/
namespace Iv
open PySem PySem.Spec PyProof.Rows L2
def Bf.name : Bf → Str
  | .len => "len" | .max2 | .max1 => "max" | .min2 | .min1 => "min" | .sum => "sum" | .abs => "abs" | .sorted => "sorted" | .tuple => "tuple" | .list => "list" | .dict => "dict" | .set => "set"
  | .all => "all" | .any => "any" | .repr => "repr" | .str => "str" | .int => "int"
/-- what a global name is -/
inductive Gv where
  | con (d : D)
  | fn (f : Nat) (ps : List Str)
  /-- with a keyword-only parameter, its default -/
  | fnk (f : Nat) (ps : List Str) (kw : Str) (d0 : D)
  /-- a class of errors: its number, its fields if it is raised -/
  | xc (c : Nat) (ri : Option (List Str))
/-- the errors that a program raises, their classes, fields -/
structure Xi where
  ids : List Nat
  cls : List Nat
  flds : List Str
structure Tb where
  N : List Str
  gl : Str → Option Gv
  xi : Xi
structure Sc where
  sc : Scope
  fl : Option Scope
def visB (c : Sc) (x : Str) : Bool := match c.sc.names.lookup x with
  | some .local | some .cell | some .free => true
  | _ => false
def locB (c : Sc) (x : Str) : Bool := match c.sc.names.lookup x with
  | some .local => true
  | some .cell => match c.fl with
    | none => true
    | some s => decide (s.names.lookup x = some .cell)
  | _ => false
def glB (c : Sc) (x : Str) : Bool := decide (c.sc.names.lookup x = some .globalImplicit)
def nmOk (x : Str) : Bool := !(x == ("__debug__" : Str)) && !(x == ("__classdict__" : Str)) && decide (x ≠ ("__name__" : Str))
def conB : D → Const → Bool
  | .int i, .int j => decide (i = j)
  | .str x, .str y => decide (x = y)
  | .bl a, .bool b => decide (a = b)
  | .non, .none => true
  | _, _ => false
def conG (T : Tb) (x : Str) (d : D) : Bool := match T.gl x with
  | some (.con d') => decide (d = d')
  | _ => false
def fnG (T : Tb) (x : Str) (f n : Nat) : Bool := match T.gl x with
  | some (.fn g ps) => decide (g = f) && decide (ps.length = n)
  | _ => false
def fnkG (T : Tb) (x : Str) (f n : Nat) : Option (Str × D) := match T.gl x with
  | some (.fnk g ps kw d0) => if g = f ∧ ps.length = n then some (kw, d0) else none
  | _ => none
def conIs : IE → D → Bool
  | .con d, d0 => decide (d = d0)
  | _, _ => false
/-- a receiver that is no super() -/
def noSuper : Expr → Bool
  | .Call (.Name _ _) [] [] _ => false
  | _ => true
def plainIx : Expr → Bool
  | .Slice .. => false
  | _ => true
def noSet : Expr → Bool
  | .Set .. => false
  | _ => true
def noComp : Expr → Bool
  | .ListComp .. | .SetComp .. | .DictComp .. => false
  | _ => true
def isBool : Expr → Bool
  | .BoolOp .. => true
  | _ => false
def ownT (T : Tb) (t : IT) : List (Str × Nat) := (slotsT t).map fun i => ((T.N[i]?).getD "", i)
def canT : IE → Bool
  | .neg _ | .ite _ _ _ => false
  | _ => true
def tupT : IT → Bool
  | .tup _ => true
  | _ => false
def tupX : Expr → Bool
  | .Tuple _ _ _ => true
  | _ => false
def nilE : IEs → Bool
  | .nil => true
  | .cons _ _ => false
/-- the builtins that have their rule -/
def bfOk : Bf → Bool
  | .len | .max2 | .min2 | .max1 | .min1 | .abs | .int | .sum | .all | .any | .tuple | .list | .sorted | .dict | .repr => true
  | _ => false
mutual
def chkE (T : Tb) (c : Sc) : IE → Expr → Bool
  | .var i, e => match e with
    | .Name x _ => decide (T.N[i]? = some x) && visB c x && nmOk x
    | _ => false
  | .con d, e => match e with
    | .Constant k _ _ => conB d k
    | _ => false
  | .glo x d, e => match e with
    | .Name y _ => decide (x = y) && glB c y && nmOk y && conG T y d
    | _ => false
  | .bin op a b, e => match e with
    | .BinOp l o r _ => decide (o = op) && chkE T c a l && chkE T c b r
    | _ => false
  | .neg a, e => match e with
    | .UnaryOp .USub l _ => chkE T c a l
    | _ => false
  | .cmp op a b, e => match e with
    | .Compare l [o] [r] _ => decide (o = op) && chkE T c a l && chkE T c b r && noSet r
    | _ => false
  | .chn op op' a b d, e => match e with
    | .Compare l [o, o'] [m, r] _ => decide (o = op) && decide (o' = op') && chkE T c a l && chkE T c b m && chkE T c d r && noSet r
    | _ => false
  | .and a b, e => match e with
    | .BoolOp .And (x :: y :: r) p => chkE T c a x && chkE T c b (.BoolOp .And (y :: r) p) && canT a
    | _ => false
  | .or a b, e => match e with
    | .BoolOp .Or (x :: y :: r) p => chkE T c a x && chkE T c b (.BoolOp .Or (y :: r) p) && canT a
    | _ => false
  | .one a, e => match e with
    | .BoolOp _ [x] _ => chkE T c a x && canT a
    | _ => false
  | .not a, e => match e with
    | .UnaryOp .Not x _ => chkE T c a x && canT a
    | _ => false
  | .ite q a b, e => match e with
    | .IfExp x y z _ => chkE T c q x && chkE T c a y && chkE T c b z && canT q
    | _ => false
  | .tup es, e => match e with
    | .Tuple xs _ _ => chkEs T c es xs
    | _ => false
  | .lst es, e => match e with
    | .List xs _ => chkEs T c es xs
    | _ => false
  | .dsp ks vs, e => match e with
    | .Dict [] [] _ => nilE ks && nilE vs
    | _ => false
  | .dis es, e => match e with
    | .Dict keys values _ => evenE es && decide (keys.length = values.length) && decide (keys ≠ []) && decide (keys.length ≤ 15) && chkP T c es keys values
    | _ => false
  | .isi k a, e => match e with
    | .Call (.Name x _) [y, .Name z _] [] _ => decide (x = "isinstance") && glB c x && (decide (z = isiN k) && glB c z && nst y) && chkE T c a y
    | _ => false
  | .call f es, e => match e with
    | .Call (.Name x _) xs [] _ => glB c x && nmOk x && fnG T x f xs.length && chkEs T c es xs
    | _ => false
  | .callk f es q w, e => match e with
    | .Call (.Name x _) (y :: ys) kws _ => glB c x && nmOk x && chkEs T c es (y :: ys) && (match fnkG T x f (ys.length + 1) with
      | none => false
      | some (kw, d0) => match kws with
        | [] => !w && conIs q d0
        | [⟨kn, v, _⟩] => w && decide (kn = some kw) && chkE T c q v
        | _ => false)
    | _ => false
  | .bf b es, e => match e with
    | .Call (.Name x _) (y :: ys) [] _ => decide (x = b.name) && bfOk b && glB c x && chkEs T c es (y :: ys)
    | _ => false
  | .bm m o es, e => match e with
    | .Call (.Attribute x n ap) xs [] cp => decide (n = m.name) && noSuper x && (ap.endLine == cp.line) && decide (xs.length < 19) && chkE T c o x && chkEs T c es xs
    | _ => false
  | .set0, e => match e with
    | .Call (.Name x _) [] [] _ => decide (x = "set") && glB c x
    | _ => false
  | .lrange es, e => match es with
    | .cons a .nil => match e with
      | .Call (.Name x _) [.Call (.Name y _) [z] [] _] [] _ => decide (x = "list") && glB c x && (decide (y = "range") && glB c y && nst z) && chkE T c a z
      | _ => false
    | _ => false
  | .ix o i, e => match e with
    | .Subscript x y _ => plainIx y && chkE T c o x && chkE T c i y
    | _ => false
  | .slc o lo hi, e => match e with
    | .Subscript x (.Slice l h none _) _ => chkE T c o x && chkO T c lo l && chkO T c hi h
    | _ => false
  | .rev a, e => match e with
    | .Subscript x (.Slice none none (some (.UnaryOp .USub (.Constant (.int i) _ _) _)) _) _ => decide (i = 1) && chkE T c a x
    | _ => false
  | .lc a t it q, e => match e with
    | .ListComp elt [⟨tg, iter, ifs, 0⟩] scope _ => chkI T c it t tg iter && noSet iter && blkC T.N c.sc scope (ownT T t) && chkT T ⟨relS scope c.sc, some scope⟩ t tg && chkC T ⟨relS scope c.sc, some scope⟩ q ifs && chkE T ⟨relS scope c.sc, some scope⟩ a elt
    | _ => false
  | .lc2 a t it t2 it2 q, e => match e with
    | .ListComp elt [⟨tg, iter, [], 0⟩, ⟨tg1, iter1, ifs, 0⟩] scope _ => (chkI T c it t tg iter && noSet iter && noSet iter1 && blkC T.N c.sc scope (ownT T t ++ ownT T t2)) && (chkT T ⟨relS scope c.sc, some scope⟩ t tg && chkI T ⟨relS scope c.sc, some scope⟩ it2 t2 tg1 iter1 && chkT T ⟨relS scope c.sc, some scope⟩ t2 tg1) && (chkC T ⟨relS scope c.sc, some scope⟩ q ifs && chkE T ⟨relS scope c.sc, some scope⟩ a elt)
    | _ => false
  | .dc a b t it, e => match e with
    | .DictComp kx vx [⟨tg, iter, [], 0⟩] scope _ => (chkI T c it t tg iter && noSet iter && blkC T.N c.sc scope (ownT T t)) && (chkT T ⟨relS scope c.sc, some scope⟩ t tg && chkE T ⟨relS scope c.sc, some scope⟩ a kx && chkE T ⟨relS scope c.sc, some scope⟩ b vx)
    | _ => false
  | .sc a t it, e => match e with
    | .SetComp elt [⟨tg, iter, [], 0⟩] scope _ => (chkI T c it t tg iter && noSet iter && blkC T.N c.sc scope (ownT T t)) && (chkT T ⟨relS scope c.sc, some scope⟩ t tg && chkE T ⟨relS scope c.sc, some scope⟩ a elt)
    | _ => false
def chkO (T : Tb) (c : Sc) : IO → Option Expr → Bool
  | .none, e => match e with
    | none => true
    | some _ => false
  | .some a, e => match e with
    | some x => chkE T c a x
    | none => false
def chkC (T : Tb) (c : Sc) : IO → List Expr → Bool
  | .none, e => match e with
    | [] => true
    | _ :: _ => false
  | .some a, e => match e with
    | [x] => chkE T c a x && canT a
    | _ => false
/-- a dict's display: key, value, key, value, .. -/
def chkP (T : Tb) (c : Sc) : IEs → List (Option Expr) → List Expr → Bool
  | .nil, ks, vs => (match ks with
    | [] => true
    | _ :: _ => false) && vs.isEmpty
  | .cons _ .nil, _, _ => false
  | .cons a (.cons b r), ks, vs => match ks, vs with
    | some k :: ks, v :: vs => chkE T c a k && chkE T c b v && chkP T c r ks vs
    | _, _ => false
def chkEs (T : Tb) (c : Sc) : IEs → List Expr → Bool
  | .nil, e => match e with
    | [] => true
    | _ :: _ => false
  | .cons a as, e => match e with
    | x :: xs => nst x && chkE T c a x && chkEs T c as xs
    | [] => false
def chkI (T : Tb) (c : Sc) : II → IT → Expr → Expr → Bool
  | .val a, _, _, e => chkE T c a e
  | .range es, _, _, e => match e with
    | .Call (.Name x _) xs [] _ => decide (x = "range") && glB c x && decide (0 < xs.length) && decide (xs.length < 4) && chkEs T c es xs
    | _ => false
  | .enum a, t, tg, e => match e with
    | .Call (.Name x _) [y] [] _ => decide (x = "enumerate") && glB c x && nst y && tupT t && tupX tg && chkE T c a y
    | _ => false
  | .zip _ _, _, _, _ => false
/-- a comprehension's target -/
def chkT (T : Tb) (c : Sc) : IT → Expr → Bool
  | .nm i, e => match e with
    | .Name x _ => decide (T.N[i]? = some x) && locB c x
    | _ => false
  | .sub _ _, _ => false
  | .tup ts, e => match e with
    | .Tuple es _ _ => chkTs T c ts es
    | _ => false
def chkTs (T : Tb) (c : Sc) : ITs → List Expr → Bool
  | .nil, e => match e with
    | [] => true
    | _ :: _ => false
  | .cons t ts, e => match e with
    | x :: xs => nst x && chkT T c t x && chkTs T c ts xs
    | [] => false
end
mutual
/-- a store's target -/
def chkA (T : Tb) (c : Sc) : IT → Expr → Bool
  | .nm i, e => match e with
    | .Name x _ => decide (T.N[i]? = some x) && locB c x
    | _ => false
  | .sub o i, e => match e with
    | .Subscript x y _ => plainIx y && chkE T c o x && chkE T c i y
    | _ => false
  | .tup ts, e => match e with
    | .Tuple es _ _ => chkAs T c ts es
    | _ => false
def chkAs (T : Tb) (c : Sc) : ITs → List Expr → Bool
  | .nil, e => match e with
    | [] => true
    | _ :: _ => false
  | .cons t ts, e => match e with
    | x :: xs => nst x && chkA T c t x && chkAs T c ts xs
    | [] => false
end
/-- the built-in names that no global hides -/
def bltNames : List Str := ["len", "max", "min", "sum", "abs", "sorted", "tuple", "list", "dict", "set", "all", "any", "repr", "str", "int", "range", "enumerate", "zip", "isinstance", "type", "ValueError"]
/-- a global is what the table says -/
def GOk (X : Cx) (F : Fns) (ca : Nat → Addr) (k : Nat) (x : Str) : Gv → Prop
  | .con d => ∃ v u, X.mg x = some u ∧ RelV v u ∧ ∀ μ H, Rep X.K μ H d v
  | .fn f ps => Own X F ca k f x ps
  | .fnk f ps kw d0 => OwnK X F ca k f x ps kw d0
  | .xc c ri => X.mg x = some (.ref (ca c)) ∧ ∀ fs, ri = some fs → XCls X ca c x fs
structure Ok (T : Tb) (c : Sc) (F : Fns) (ca : Nat → Addr) (k : Nat) (X : Cx) : Prop where
  N : X.N = T.N
  nd : X.N.Nodup
  sc : X.env.scope = c.sc
  fl : ∀ x, (match c.fl with | none => True | some s => s.names.lookup x = some .cell) → X.fn x = true
  calm : X.calm = true
  room : Room (k + 2) X.A
  gd : X.A.guards = some []
  bl : ∀ x ∈ bltNames, X.mg x = none
  gl : ∀ x v, T.gl x = some v → GOk X F ca (k + 2) x v
  xi : XIds X.K ca T.xi.ids T.xi.cls T.xi.flds
section
variable {T : Tb} {c : Sc} {F : Fns} {ca : Nat → Addr} {k : Nat} {X : Cx} {E : XK}
theorem Ok.hu (O : Ok T c F ca k X) : X.A.units + 100 < cLine := by have := O.room.un; omega
theorem Ok.glob (O : Ok T c F ca k X) {x : Str} (h : glB c x = true) : Gl X x := by
  show X.env.scope.names.lookup x = _
  rw [O.sc]
  exact of_decide_eq_true h
theorem Ok.vis (O : Ok T c F ca k X) {x : Str} (h : visB c x = true) : Vis X.env.scope x := by
  rw [O.sc]
  unfold visB at h
  split at h
  · exact .inl (by assumption)
  · exact .inr (.inl (by assumption))
  · exact .inr (.inr (by assumption))
  · cases h
theorem Ok.loc (O : Ok T c F ca k X) {x : Str} (h : locB c x = true) : Loc X.env.scope x ∧ (X.fn x = true ∨ X.env.scope.names.lookup x = some .local) := by
  rw [O.sc]
  unfold locB at h
  split at h
  · exact ⟨.inl (by assumption), .inr (by assumption)⟩
  · refine ⟨.inr (by assumption), .inl (O.fl x ?_)⟩
    split at h
    · trivial
    · exact of_decide_eq_true h
  · cases h
theorem nm1 {x : Str} (h : nmOk x = true) : (x == ("__debug__" : Str)) = false := by
  unfold nmOk at h
  simp only [Bool.and_eq_true, Bool.not_eq_true'] at h
  exact h.1.1
theorem nm2 {x : Str} (h : nmOk x = true) : (x == ("__classdict__" : Str)) = false := by
  unfold nmOk at h
  simp only [Bool.and_eq_true, Bool.not_eq_true'] at h
  exact h.1.2
theorem nm3 {x : Str} (h : nmOk x = true) : x ≠ ("__name__" : Str) := by
  unfold nmOk at h
  simp only [Bool.and_eq_true, decide_eq_true_eq] at h
  exact h.2
theorem Ok.blk (O : Ok T c F ca k X) (s : Shared) (H : Hp) (scope : Scope) (C : Addr) (cl : List (Str × Addr)) (fp : List Addr) : Ok T ⟨relS scope c.sc, some scope⟩ F ca k (X.blk s H scope (compEnvC scope cl C X.env) fp) := by
  refine ⟨O.N, O.nd, ?_, fun x h => ?_, O.calm, O.room, O.gd, O.bl, fun x v h => ?_, O.xi⟩
  · show relS scope X.env.scope = _
    rw [O.sc]
  · show (scope.names.lookup x == some NameKind.cell) = true
    have h : scope.names.lookup x = some .cell := h
    rw [h]
    rfl
  · have q := O.gl x v h
    cases v with
    | con d => exact q
    | fn f ps =>
      obtain ⟨a, fd, h1, h2, h3, h4⟩ := (show Own X F ca (k + 2) f x ps from q).ex
      exact (⟨a, fd, h1, h2, h3, h4⟩ : Own (X.blk s H scope (compEnvC scope cl C X.env) fp) F ca (k + 2) f x ps)
    | fnk f ps kw d0 => exact (⟨(show OwnK X F ca (k + 2) f x ps kw d0 from q).ex⟩ : OwnK (X.blk s H scope (compEnvC scope cl C X.env) fp) F ca (k + 2) f x ps kw d0)
    | xc c ri =>
      obtain ⟨q1, q2⟩ := (show X.mg x = some (.ref (ca c)) ∧ ∀ fs, ri = some fs → XCls X ca c x fs from q)
      exact ⟨q1, fun fs e => ⟨(q2 fs e).ex⟩⟩
theorem noSet_fold {e : Expr} {env : PySem.Env} (h : noSet e = true) : ∀ x, foldedSetIterable e env x = pure x := by
  intro x
  cases e <;> first | rfl | cases h
theorem noSet_marks {e : Expr} {op : CmpOp} (h : noSet e = true) : behindInMarks op e = false := by
  cases e <;> first | rfl | cases h
theorem noComp_swaps {e : Expr} {t : Option Expr} {n : Nat} {env : PySem.Env} (h : noComp e = true) : swapsWith e t n env = pure false := by
  cases e <;> first | rfl | cases h
theorem plainIx_ok {e : Expr} (h : plainIx e = true) : PlainIx e := by
  intro o i
  cases e <;> first | rfl | cases h
theorem plainIx_as {o i : Expr} {pos : Pos} {env : PySem.Env} (h : plainIx i = true) : ∀ v, assign (.Subscript o i pos) env v = (do
      let ov ← holding [v] (eval o env)
      let iv ← holding [v, ov] (eval i env)
      standAt pos
      holding [v, ov, iv] (setItem ov iv v)
      release [v, ov, iv] []) := by
  intro v
  cases i <;> first | rfl | cases h
theorem noSuper_base {o : Expr} {attr : Str} {env : PySem.Env} {w : Sem Value} (h : noSuper o = true) : attributeBase o attr env w = w := by
  unfold attributeBase
  split
  · cases h
  · rfl
theorem as_cons {e : Expr} {es : List Expr} {env : PySem.Env} (h : nst e = true) : assignEach (e :: es) env = (false, assign e env) :: assignEach es env := by
  cases e <;> first | rfl | cases h
theorem chkEs_all : ∀ {as : IEs} {es : List Expr}, chkEs T c as es = true → es.all nst = true ∧ ∀ ρ S ds S1, evEs F as ρ S = .ok ds S1 → ds.length = es.length
  | .nil, [], _ => ⟨rfl, fun ρ S ds S1 h => by cases h; rfl⟩
  | .nil, _ :: _, h => by cases h
  | .cons _ _, [], h => by cases h
  | .cons a as, x :: xs, h => by
    have h : (nst x && chkE T c a x && chkEs T c as xs) = true := h
    have q := Bool.and_eq_true_iff.mp h
    have q1 := Bool.and_eq_true_iff.mp q.1
    obtain ⟨i1, i2⟩ := chkEs_all q.2
    refine ⟨?_, fun ρ S ds S1 h => ?_⟩
    · rw [List.all_cons, q1.1, i1]
      rfl
    · have h : ((evE F a ρ S).bind fun d S1 => (evEs F as ρ S1).bind fun ds S2 => .ok (d :: ds) S2) = .ok ds S1 := h
      cases h1 : evE F a ρ S with
      | ok d S2 =>
        rw [h1] at h
        have h : ((evEs F as ρ S2).bind fun ds S3 => .ok (d :: ds) S3) = .ok ds S1 := h
        cases h2 : evEs F as ρ S2 with
        | ok ds2 S3 =>
          rw [h2] at h
          cases h
          exact congrArg (· + 1) (i2 _ _ _ _ h2)
        | ex _ _ _ => rw [h2] at h; cases h
        | bad => rw [h2] at h; cases h
      | ex _ _ _ => rw [h1] at h; cases h
      | bad => rw [h1] at h; cases h
theorem chkTs_len {env : PySem.Env} : ∀ {ts : ITs} {es : List Expr}, chkTs T c ts es = true → (assignEach es env).length = slotsTs.len ts ∧ (assignEach es env).findIdx? (·.1) = none
  | .nil, [], _ => ⟨rfl, rfl⟩
  | .nil, _ :: _, h => by cases h
  | .cons _ _, [], h => by cases h
  | .cons t ts, x :: xs, h => by
    have h : (nst x && chkT T c t x && chkTs T c ts xs) = true := h
    have q := Bool.and_eq_true_iff.mp h
    have q1 := Bool.and_eq_true_iff.mp q.1
    obtain ⟨i1, i2⟩ := chkTs_len q.2
    rw [as_cons q1.1]
    refine ⟨congrArg (· + 1) i1, ?_⟩
    rw [List.findIdx?_cons, i2]
    rfl
theorem chkAs_len {env : PySem.Env} : ∀ {ts : ITs} {es : List Expr}, chkAs T c ts es = true → (assignEach es env).length = slotsTs.len ts ∧ (assignEach es env).findIdx? (·.1) = none
  | .nil, [], _ => ⟨rfl, rfl⟩
  | .nil, _ :: _, h => by cases h
  | .cons _ _, [], h => by cases h
  | .cons t ts, x :: xs, h => by
    have h : (nst x && chkA T c t x && chkAs T c ts xs) = true := h
    have q := Bool.and_eq_true_iff.mp h
    have q1 := Bool.and_eq_true_iff.mp q.1
    obtain ⟨i1, i2⟩ := chkAs_len q.2
    rw [as_cons q1.1]
    refine ⟨congrArg (· + 1) i1, ?_⟩
    rw [List.findIdx?_cons, i2]
    rfl
/-- the rule of a builtin -/
theorem bf_rule (hu : X.A.units + 100 < cLine) (hg : X.A.guards = some []) (hc : X.calm = true) {b : Bf} (h : bfOk b = true) : (∃ id, bootBuiltins b.name = some (.builtin id) ∧ CallR X (.builtin id) (rN (gX X ca) E (bfD b))) ∨ ∃ t, bootBuiltins b.name = some (.type t) ∧ CallR X (.type t) (rN (gX X ca) E (bfD b)) := by
  cases b <;> first | cases h | skip
  · exact .inl ⟨_, by decide +kernel, b_len⟩
  · exact .inl ⟨_, boot_max, b_max2 hc⟩
  · exact .inl ⟨_, boot_min, b_min2 hc⟩
  · exact .inl ⟨_, boot_max, b_max1 hu hc⟩
  · exact .inl ⟨_, boot_min, b_min1 hu hc⟩
  · exact .inl ⟨_, boot_sum, b_sum hc⟩
  · exact .inl ⟨_, boot_abs, b_abs⟩
  · exact .inl ⟨_, boot_sorted, b_sorted hu hc⟩
  · exact .inr ⟨_, boot_tuple, b_tuple⟩
  · exact .inr ⟨_, boot_list, b_list⟩
  · exact .inr ⟨_, boot_dict, b_dict hc⟩
  · exact .inl ⟨_, boot_all, b_all hc⟩
  · exact .inl ⟨_, boot_any, b_any hc⟩
  · exact .inl ⟨_, boot_repr, b_repr hu hg⟩
  · exact .inr ⟨_, boot_int, b_int⟩
theorem bf_names (b : Bf) : b.name ∈ bltNames ∧ nmOk b.name = true := by cases b <;> decide +kernel
end
end Iv

set_option maxRecDepth 10000
/-! Iv18: the interpreter tells what the model does: expressions. -/
namespace Iv
open PySem PySem.Spec PyProof.Rows L2
structure PR (X : Cx) (ca : Nat → Addr) (E : XK) (F : Fns) (a : IE) (e : Expr) : Prop where
  pe : PE X e (tE (gX X ca) E F a)
  pt : canT a = true → PT X e (tT (gX X ca) E F a)
  pw : isBool e = true → PW X e (tT (gX X ca) E F a)
theorem tru3 {a b d : Bool} (h : (a && b && d) = true) : a = true ∧ b = true ∧ d = true := by cases a <;> cases b <;> cases d <;> simp_all
theorem tru2 {a b : Bool} (h : (a && b) = true) : a = true ∧ b = true := Bool.and_eq_true_iff.mp h
section
variable {T : Tb} {F : Fns} {ca : Nat → Addr} {k : Nat}
theorem plain_bool {e : Expr} (p : plainT e = true) (z : isBool e = true) : False := by
  unfold isBool at z
  split at z
  · cases p
  · cases z
theorem PR.plain {X : Cx} {E : XK} {a : IE} {e : Expr} (h : PE X e (tE (gX X ca) E F a)) (p : plainT e = true) : PR X ca E F a e := ⟨h, fun _ => t_of_e h p, fun z => (plain_bool p z).elim⟩
theorem con_ok {X : Cx} {E : XK} {d : D} {q : Const} {j : Nat} {pos : Pos} (h : conB d q = true) : PE X (.Constant q j pos) (tE (gX X ca) E F (.con d)) := by
  cases d <;> cases q <;> first | cases h | skip
  · exact e_con pe_non fun _ _ => rfl
  · obtain rfl := of_decide_eq_true h
    exact e_con pe_bl fun _ _ => rfl
  · obtain rfl := of_decide_eq_true h
    exact e_con pe_int fun _ _ => rfl
  · obtain rfl := of_decide_eq_true h
    exact e_con pe_str fun _ _ => rfl
theorem t_one {X : Cx} {E : XK} {a : IE} : tT (gX X ca) E F (.one a) = tT (gX X ca) E F a := rfl
theorem own_ix {T : Tb} {t : IT} : (ownT T t).map (·.2) = slotsT t := by
  unfold ownT
  rw [List.map_map]
  exact List.map_id _
theorem fnkG_ok {x kw : Str} {f n : Nat} {d0 : D} (h : fnkG T x f n = some (kw, d0)) : ∃ ps, T.gl x = some (.fnk f ps kw d0) ∧ ps.length = n := by
  unfold fnkG at h
  split at h
  · rename_i g ps kw' d' hg
    split at h
    · rename_i hh
      cases h
      exact ⟨ps, by rw [hg, hh.1], hh.2⟩
    · cases h
  · cases h
mutual
theorem snE : ∀ (a : IE) {c : Sc} {X : Cx} {E : XK} {e : Expr}, Ok T c F ca k X → Passes (L2.CX X.prog X.w) X E → chkE T c a e = true → PR X ca E F a e
  | .var i, c, X, E, e, O, hx, h => by
    simp only [chkE] at h
    split at h
    · obtain ⟨h1, h2, h3⟩ := tru3 h
      exact .plain (e_var (pe_var (by rw [O.N]; exact of_decide_eq_true h1) (O.vis h2) (nm1 h3) (nm2 h3))) rfl
    · cases h
  | .con d, c, X, E, e, O, hx, h => by
    simp only [chkE] at h
    split at h
    · exact .plain (con_ok h) rfl
    · cases h
  | .glo x d, c, X, E, e, O, hx, h => by
    simp only [chkE] at h
    split at h
    · obtain ⟨h, h4⟩ := tru2 h
      obtain ⟨h1, h2, h3⟩ := tru3 h
      obtain rfl := of_decide_eq_true h1
      unfold conG at h4
      split at h4
      · rename_i hg
        obtain rfl := of_decide_eq_true h4
        obtain ⟨v, u, g1, g2, g3⟩ := O.gl _ _ hg
        exact .plain (e_glo (pe_glob (O.glob h2) g1 g2 (nm1 h3)) g3) rfl
      · cases h4
    · cases h
  | .bin op a b, c, X, E, e, O, hx, h => by
    simp only [chkE] at h
    split at h
    · obtain ⟨h1, h2, h3⟩ := tru3 h
      obtain rfl := of_decide_eq_true h1
      exact .plain (e_bin (snE a O hx h2).pe (snE b O hx h3).pe) rfl
    · cases h
  | .neg a, c, X, E, e, O, hx, h => by
    simp only [chkE] at h
    split at h
    · exact ⟨e_neg (snE a O hx h).pe, (fun z => by cases z), (fun z => by cases z)⟩
    · cases h
  | .cmp op a b, c, X, E, e, O, hx, h => by
    simp only [chkE] at h
    split at h
    · obtain ⟨h, h4⟩ := tru2 h
      obtain ⟨h1, h2, h3⟩ := tru3 h
      obtain rfl := of_decide_eq_true h1
      exact ⟨e_cmp O.hu (snE a O hx h2).pe (snE b O hx h3).pe (noSet_marks h4), fun _ => t_cmp O.hu (snE a O hx h2).pe (snE b O hx h3).pe (noSet_marks h4), fun z => by cases z⟩
    · cases h
  | .chn op op' a b d, c, X, E, e, O, hx, h => by
    simp only [chkE] at h
    split at h
    · obtain ⟨h, h6⟩ := tru2 h
      obtain ⟨h, h4, h5⟩ := tru3 h
      obtain ⟨h1, h2, h3⟩ := tru3 h
      obtain rfl := of_decide_eq_true h1
      obtain rfl := of_decide_eq_true h2
      exact ⟨e_chn O.hu (snE a O hx h3).pe (snE b O hx h4).pe (snE d O hx h5).pe (pe_chain (op_cmp O.hu) (op_cmp O.hu) (snE a O hx h3).pe (snE b O hx h4).pe (snE d O hx h5).pe (noSet_marks h6)), (fun _ => t_chn O.hu (snE a O hx h3).pe (snE b O hx h4).pe (snE d O hx h5).pe (noSet_marks h6)), (fun z => by cases z)⟩
    · cases h
  | .and a b, c, X, E, e, O, hx, h => by
    simp only [chkE] at h
    split at h
    · obtain ⟨h1, h2, h3⟩ := tru3 h
      have w := w_and ((snE a O hx h1).pt h3) ((snE b O hx h2).pw rfl)
      exact ⟨e_and (snE a O hx h1).pe (snE b O hx h2).pe, fun _ => w.pt, fun _ => w⟩
    · cases h
  | .or a b, c, X, E, e, O, hx, h => by
    simp only [chkE] at h
    split at h
    · obtain ⟨h1, h2, h3⟩ := tru3 h
      have w := w_or ((snE a O hx h1).pt h3) ((snE b O hx h2).pw rfl)
      exact ⟨e_or (snE a O hx h1).pe (snE b O hx h2).pe, fun _ => w.pt, fun _ => w⟩
    · cases h
  | .one a, c, X, E, e, O, hx, h => by
    simp only [chkE] at h
    split at h
    · rename_i op x p
      obtain ⟨h1, h2⟩ := tru2 h
      have t := (snE a O hx h1).pt h2
      have w : PW X (.BoolOp op [x] p) (tT (gX X ca) E F (.one a)) := by
        cases op with
        | And => exact pw_and1 t
        | Or => exact pw_or1 t
      exact ⟨pe_one (snE a O hx h1).pe, fun _ => w.pt, fun _ => w⟩
    · cases h
  | .not a, c, X, E, e, O, hx, h => by
    simp only [chkE] at h
    split at h
    · obtain ⟨h1, h2⟩ := tru2 h
      exact ⟨e_not (snE a O hx h1).pe, fun _ => t_not ((snE a O hx h1).pt h2), fun z => by cases z⟩
    · cases h
  | .ite q a b, c, X, E, e, O, hx, h => by
    simp only [chkE] at h
    split at h
    · obtain ⟨h, h4⟩ := tru2 h
      obtain ⟨h1, h2, h3⟩ := tru3 h
      exact ⟨e_ite ((snE q O hx h1).pt h4) (snE a O hx h2).pe (snE b O hx h3).pe, (fun z => by cases z), (fun z => by cases z)⟩
    · cases h
  | .tup es, c, X, E, e, O, hx, h => by
    simp only [chkE] at h
    split at h
    · exact .plain (e_tup (snEs es O hx h)) rfl
    · cases h
  | .lst es, c, X, E, e, O, hx, h => by
    simp only [chkE] at h
    split at h
    · exact .plain (e_lst (snEs es O hx h)) rfl
    · cases h
  | .dsp ks vs, c, X, E, e, O, hx, h => by
    simp only [chkE] at h
    split at h
    · obtain ⟨h1, h2⟩ := tru2 h
      cases ks with
      | cons _ _ => cases h1
      | nil =>
        cases vs with
        | cons _ _ => cases h2
        | nil => exact .plain e_dct0 rfl
    · cases h
  | .call f es, c, X, E, e, O, hx, h => by
    simp only [chkE] at h
    split at h
    · rename_i x p xs pos
      obtain ⟨h, h4⟩ := tru2 h
      obtain ⟨h1, h2, h3⟩ := tru3 h
      unfold fnG at h3
      split at h3
      · rename_i g ps hg
        obtain ⟨e1, e2⟩ := tru2 h3
        obtain rfl := of_decide_eq_true e1
        refine .plain (e_call (O.gl _ _ hg) O.room O.gd hx (O.glob h1) (nm1 h2) (snEs es O hx h4) (chkEs_all (F := F) h4).1 fun z => ?_) rfl
        subst z
        cases es with
        | nil => rfl
        | cons _ _ => cases h4
      · cases h3
    · cases h
  | .callk f es q w, c, X, E, e, O, hx, h => by
    simp only [chkE] at h
    split at h
    · rename_i x p y ys kws pos
      obtain ⟨h, h5⟩ := tru2 h
      obtain ⟨h1, h2, h3⟩ := tru3 h
      obtain ⟨al, hE⟩ := chkEs_all (F := F) h3
      split at h5
      · cases h5
      · rename_i kw d0 hk
        obtain ⟨ps, hg, hn⟩ := fnkG_ok hk
        split at h5
        · obtain ⟨h6, h7⟩ := tru2 h5
          cases w with
          | true => cases h6
          | false =>
            unfold conIs at h7
            split at h7
            · obtain rfl := of_decide_eq_true h7
              exact .plain (e_call0 (O.gl _ _ hg) O.room O.gd hx (O.glob h1) (nm1 h2) (snEs es O hx h3) al) rfl
            · cases h7
        · obtain ⟨h6, h7, h8⟩ := tru3 h5
          obtain rfl := h6
          obtain rfl := of_decide_eq_true h7
          exact .plain (e_call1 (O.gl _ _ hg) O.room O.gd hx (O.glob h1) (nm1 h2) (snEs es O hx h3) (snE q O hx h8).pe al hn.symm hE) rfl
        · cases h5
    · cases h
  | .bf b es, c, X, E, e, O, hx, h => by
    simp only [chkE] at h
    split at h
    · obtain ⟨h, h4⟩ := tru2 h
      obtain ⟨h1, h2, h3⟩ := tru3 h
      obtain rfl := of_decide_eq_true h1
      obtain ⟨n1, n2⟩ := bf_names b
      rcases bf_rule (X := X) (ca := ca) (E := E) O.hu O.gd O.calm h2 with ⟨id, hv, hc⟩ | ⟨t, hv, hc⟩
      · exact .plain (e_bfn hc (O.glob h3) (O.bl _ n1) hv (snEs es O hx h4) (nm3 n2) (nm1 n2) (chkEs_all (F := F) h4).1) rfl
      · exact .plain (e_bty hc (O.glob h3) (O.bl _ n1) hv (snEs es O hx h4) (nm3 n2) (nm1 n2) (chkEs_all (F := F) h4).1) rfl
    · cases h
  | .bm m o es, c, X, E, e, O, hx, h => by
    simp only [chkE] at h
    split at h
    · rename_i x n ap xs cp
      obtain ⟨h, h5, h6⟩ := tru3 h
      obtain ⟨h, h3, h4⟩ := tru3 h
      obtain ⟨h1, h2⟩ := tru2 h
      obtain rfl := of_decide_eq_true h1
      have hl := of_decide_eq_true h4
      have pa := snEs es O hx h6
      have al := (chkEs_all (F := F) h6).1
      cases xs with
      | nil =>
        cases es with
        | nil => exact .plain (e_bm0 O.hu (snE o O hx h5).pe (noSuper_base h2) h3) rfl
        | cons _ _ => cases h6
      | cons y ys => exact .plain (e_bm O.hu (snE o O hx h5).pe pa (noSuper_base h2) h3 al (Nat.lt_succ_of_lt hl)) rfl
    · cases h
  | .set0, c, X, E, e, O, hx, h => by
    simp only [chkE] at h
    split at h
    · obtain ⟨h1, h2⟩ := tru2 h
      obtain rfl := of_decide_eq_true h1
      exact .plain (e_set0 (O.glob h2) (O.bl _ (by decide +kernel)) boot_set (by decide +kernel) (by decide +kernel)) rfl
    · cases h
  | .dis es, c, X, E, e, O, hx, h => by
    simp only [chkE] at h
    split at h
    · obtain ⟨h, h5⟩ := tru2 h
      obtain ⟨h, h3, h4⟩ := tru3 h
      obtain ⟨h1, h2⟩ := tru2 h
      obtain ⟨hp, ha⟩ := snP es O hx h5
      exact .plain (e_dis hp h1 ha (of_decide_eq_true h2) (of_decide_eq_true h3) (of_decide_eq_true h4)) rfl
    · cases h
  | .isi k a, c, X, E, e, O, hx, h => by
    simp only [chkE] at h
    split at h
    · obtain ⟨h, h4⟩ := tru2 h
      obtain ⟨h, h3⟩ := tru2 h
      obtain ⟨h1, h2⟩ := tru2 h
      obtain ⟨h, g3⟩ := tru2 h3
      obtain ⟨g1, g2⟩ := tru2 h
      obtain rfl := of_decide_eq_true h1
      obtain rfl := of_decide_eq_true g1
      exact .plain (e_isi (O.glob h2) (O.bl _ (by decide +kernel)) (O.glob g2) (O.bl _ (by cases k <;> decide +kernel)) (snE a O hx h4).pe g3) rfl
    · cases h
  | .lrange .nil, c, X, E, e, O, hx, h => by cases h
  | .lrange (.cons _ (.cons _ _)), c, X, E, e, O, hx, h => by cases h
  | .lrange (.cons a .nil), c, X, E, e, O, hx, h => by
    simp only [chkE] at h
    split at h
    · obtain ⟨h, h4⟩ := tru2 h
      obtain ⟨h, h3⟩ := tru2 h
      obtain ⟨h1, h2⟩ := tru2 h
      obtain ⟨h, g3⟩ := tru2 h3
      obtain ⟨g1, g2⟩ := tru2 h
      obtain rfl := of_decide_eq_true h1
      obtain rfl := of_decide_eq_true g1
      exact .plain (e_lrange1 O.calm (O.glob h2) (O.bl _ (by decide +kernel)) (O.glob g2) (O.bl _ (by decide +kernel)) (snE a O hx h4).pe (star_cons g3) (star_cons rfl)) rfl
    · cases h
  | .ix o i, c, X, E, e, O, hx, h => by
    simp only [chkE] at h
    split at h
    · obtain ⟨h1, h2, h3⟩ := tru3 h
      exact .plain (e_ix O.hu (snE o O hx h2).pe (snE i O hx h3).pe (plainIx_ok h1)) rfl
    · cases h
  | .slc o lo hi, c, X, E, e, O, hx, h => by
    simp only [chkE] at h
    split at h
    · obtain ⟨h1, h2, h3⟩ := tru3 h
      exact .plain (e_slc (snE o O hx h1).pe (snO lo O hx h2) (snO hi O hx h3)) rfl
    · cases h
  | .rev a, c, X, E, e, O, hx, h => by
    simp only [chkE] at h
    split at h
    · obtain ⟨h1, h2⟩ := tru2 h
      obtain rfl := of_decide_eq_true h1
      exact .plain (e_rev (snE a O hx h2).pe) rfl
    · cases h
  | .lc a t it q, c, X, E, e, O, hx, h => by
    simp only [chkE] at h
    split at h
    · rename_i elt tg iter ifs scope pos
      obtain ⟨h, h5, h6⟩ := tru3 h
      obtain ⟨h, h3, h4⟩ := tru3 h
      obtain ⟨h1, h2⟩ := tru2 h
      have ok : BlkOk X.N X.env.scope scope (ownT T t) := by
        rw [O.N, O.sc]
        exact blkOk_by h3
      exact .plain (e_lc O.calm O.nd (snI it t O hx h1) ok own_ix (fun s H C cl fp => snT t (O.blk s H scope C cl fp) h4) (fun s H C cl fp => snC q (O.blk s H scope C cl fp) passL h5) (fun s H C cl fp => (snE a (O.blk s H scope C cl fp) passL h6).pe) (noSet_fold h2)) rfl
    · cases h
  | .lc2 a t it t2 it2 q, c, X, E, e, O, hx, h => by
    simp only [chkE] at h
    split at h
    · rename_i elt tg iter tg1 iter1 ifs scope pos
      obtain ⟨ha, hb, h9⟩ := tru3 h
      obtain ⟨hq, he⟩ := tru2 h9
      obtain ⟨ha, h3, h4⟩ := tru3 ha
      obtain ⟨h1, h2⟩ := tru2 ha
      obtain ⟨h5, h6, h7⟩ := tru3 hb
      have ok : BlkOk X.N X.env.scope scope (ownT T t ++ ownT T t2) := by
        rw [O.N, O.sc]
        exact blkOk_by h4
      exact .plain (e_lc2 O.calm O.nd (snI it t O hx h1) ok (by rw [List.map_append, own_ix, own_ix]) (fun s H C cl fp => snT t (O.blk s H scope C cl fp) h5) (fun s H C cl fp => snI it2 t2 (O.blk s H scope C cl fp) passL h6) (fun s H C cl fp => snT t2 (O.blk s H scope C cl fp) h7) (fun s H C cl fp => snC q (O.blk s H scope C cl fp) passL hq) (fun s H C cl fp => (snE a (O.blk s H scope C cl fp) passL he).pe) (noSet_fold h2) (fun env x => noSet_fold h3 x)) rfl
    · cases h
  | .dc a b t it, c, X, E, e, O, hx, h => by
    simp only [chkE] at h
    split at h
    · rename_i kx vx tg iter scope pos
      obtain ⟨ha, hb⟩ := tru2 h
      obtain ⟨h1, h2, h3⟩ := tru3 ha
      obtain ⟨h4, h5, h6⟩ := tru3 hb
      have ok : BlkOk X.N X.env.scope scope (ownT T t) := by
        rw [O.N, O.sc]
        exact blkOk_by h3
      exact .plain (e_dc O.calm O.nd (snI it t O hx h1) ok own_ix (fun s H C cl fp => snT t (O.blk s H scope C cl fp) h4) (fun s H C cl fp => (snE a (O.blk s H scope C cl fp) passL h5).pe) (fun s H C cl fp => (snE b (O.blk s H scope C cl fp) passL h6).pe) (noSet_fold h2)) rfl
    · cases h
  | .sc a t it, c, X, E, e, O, hx, h => by
    simp only [chkE] at h
    split at h
    · rename_i elt tg iter scope pos
      obtain ⟨ha, hb⟩ := tru2 h
      obtain ⟨h1, h2, h3⟩ := tru3 ha
      obtain ⟨h4, h5⟩ := tru2 hb
      have ok : BlkOk X.N X.env.scope scope (ownT T t) := by
        rw [O.N, O.sc]
        exact blkOk_by h3
      exact .plain (e_sc O.calm O.nd (snI it t O hx h1) ok own_ix (fun s H C cl fp => snT t (O.blk s H scope C cl fp) h4) (fun s H C cl fp => (snE a (O.blk s H scope C cl fp) passL h5).pe) (noSet_fold h2)) rfl
    · cases h
theorem snP : ∀ (es : IEs) {c : Sc} {X : Cx} {E : XK} {keys : List (Option Expr)} {values : List Expr} {pos : Pos}, Ok T c F ca k X → Passes (L2.CX X.prog X.w) X E → chkP T c es keys values = true → PPs X pos keys values (prsOf (gX X ca) E F es) ∧ keys.all (·.isSome) = true
  | .nil, c, X, E, keys, values, pos, O, hx, h => by
    simp only [chkP] at h
    cases keys with
    | cons _ _ => cases h
    | nil =>
      cases values with
      | cons _ _ => cases h
      | nil => exact ⟨pps_nil, rfl⟩
  | .cons _ .nil, c, X, E, keys, values, pos, O, hx, h => by cases h
  | .cons a (.cons b r), c, X, E, keys, values, pos, O, hx, h => by
    simp only [chkP] at h
    split at h
    · obtain ⟨h1, h2, h3⟩ := tru3 h
      obtain ⟨hp, ha⟩ := snP r (pos := pos) O hx h3
      exact ⟨pps_cons (snE a O hx h1).pe (snE b O hx h2).pe hp, by rw [List.all_cons, ha]; rfl⟩
    · cases h
theorem snO : ∀ (a : IO) {c : Sc} {X : Cx} {E : XK} {e : Option Expr}, Ok T c F ca k X → Passes (L2.CX X.prog X.w) X E → chkO T c a e = true → PO X e (tEo (gX X ca) E F a)
  | .none, c, X, E, e, O, hx, h => by
    cases e with
    | none => exact o_none
    | some _ => cases h
  | .some a, c, X, E, e, O, hx, h => by
    cases e with
    | none => cases h
    | some x => exact o_some (snE a O hx h).pe
theorem snC : ∀ (a : IO) {c : Sc} {X : Cx} {E : XK} {e : List Expr}, Ok T c F ca k X → Passes (L2.CX X.prog X.w) X E → chkC T c a e = true → PTs X e (tC (gX X ca) E F a)
  | .none, c, X, E, e, O, hx, h => by
    cases e with
    | nil => exact c_nil
    | cons _ _ => cases h
  | .some a, c, X, E, e, O, hx, h => by
    simp only [chkC] at h
    split at h
    · obtain ⟨h1, h2⟩ := tru2 h
      exact c_one ((snE a O hx h1).pt h2)
    · cases h
theorem snEs : ∀ (a : IEs) {c : Sc} {X : Cx} {E : XK} {e : List Expr}, Ok T c F ca k X → Passes (L2.CX X.prog X.w) X E → chkEs T c a e = true → PA X e (tEs (gX X ca) E F a)
  | .nil, c, X, E, e, O, hx, h => by
    cases e with
    | nil => exact a_nil
    | cons _ _ => cases h
  | .cons a as, c, X, E, e, O, hx, h => by
    cases e with
    | nil => cases h
    | cons x xs =>
      obtain ⟨h1, h2, h3⟩ := tru3 h
      exact a_cons (snE a O hx h2).pe (snEs as O hx h3) h1
theorem snI : ∀ (a : II) (t : IT) {c : Sc} {X : Cx} {E : XK} {tg e : Expr}, Ok T c F ca k X → Passes (L2.CX X.prog X.w) X E → chkI T c a t tg e = true → PI X tg e (tI (gX X ca) E F t a)
  | .val a, t, c, X, E, tg, e, O, hx, h => i_val (snE a O hx h).pe
  | .range es, t, c, X, E, tg, e, O, hx, h => by
    simp only [chkI] at h
    split at h
    · obtain ⟨h, h4, h5⟩ := tru3 h
      obtain ⟨h1, h2, h3⟩ := tru3 h
      obtain rfl := of_decide_eq_true h1
      obtain ⟨a1, a2⟩ := chkEs_all (F := F) h5
      exact i_range (O.glob h2) (O.bl _ (by decide +kernel)) (snEs es O hx h5) ⟨of_decide_eq_true h3, of_decide_eq_true h4⟩ a1 a2
    · cases h
  | .enum a, t, c, X, E, tg, e, O, hx, h => by
    simp only [chkI] at h
    split at h
    · obtain ⟨h, h5, h6⟩ := tru3 h
      obtain ⟨h, h3, h4⟩ := tru3 h
      obtain ⟨h1, h2⟩ := tru2 h
      obtain rfl := of_decide_eq_true h1
      cases t with
      | tup ts =>
        unfold tupX at h5
        split at h5
        · exact i_enum (O.glob h2) (O.bl _ (by decide +kernel)) (snE a O hx h6).pe h3
        · cases h5
      | nm _ => cases h4
      | sub _ _ => cases h4
    · cases h
  | .zip _ _, t, c, X, E, tg, e, O, hx, h => by cases h
theorem snT : ∀ (a : IT) {c : Sc} {X : Cx} {e : Expr}, Ok T c F ca k X → chkT T c a e = true → PG X e (gB (gX X ca) a)
  | .nm i, c, X, e, O, h => by
    simp only [chkT] at h
    split at h
    · obtain ⟨h1, h2⟩ := tru2 h
      obtain ⟨l1, l2⟩ := O.loc h2
      exact b_name (pg_name O.nd (by rw [O.N]; exact of_decide_eq_true h1) l1 l2)
    · cases h
  | .sub _ _, c, X, e, O, h => by cases h
  | .tup ts, c, X, e, O, h => by
    simp only [chkT] at h
    split at h
    · obtain ⟨n1, n2⟩ := chkTs_len (env := X.env) h
      exact b_tup O.calm (snTs ts O h) n1 n2 rfl
    · cases h
theorem snTs : ∀ (a : ITs) {c : Sc} {X : Cx} {e : List Expr}, Ok T c F ca k X → chkTs T c a e = true → PGs X e (gBs (gX X ca) a)
  | .nil, c, X, e, O, h => by
    cases e with
    | nil => exact b_nil
    | cons _ _ => cases h
  | .cons a as, c, X, e, O, h => by
    cases e with
    | nil => cases h
    | cons x xs =>
      obtain ⟨h1, h2, h3⟩ := tru3 h
      exact b_cons (snT a O h2) (snTs as O h3) (by rw [as_cons h1]; rfl)
end
mutual
theorem snA : ∀ (a : IT) {c : Sc} {X : Cx} {E : XK} {e : Expr}, Ok T c F ca k X → Passes (L2.CX X.prog X.w) X E → chkA T c a e = true → PG X e (gA (gX X ca) E F a)
  | .nm i, c, X, E, e, O, hx, h => by
    simp only [chkA] at h
    split at h
    · obtain ⟨h1, h2⟩ := tru2 h
      obtain ⟨l1, l2⟩ := O.loc h2
      exact s_name (pg_name O.nd (by rw [O.N]; exact of_decide_eq_true h1) l1 l2)
    · cases h
  | .sub o i, c, X, E, e, O, hx, h => by
    simp only [chkA] at h
    split at h
    · obtain ⟨h1, h2, h3⟩ := tru3 h
      exact s_sub (by have := O.hu; omega) (snE o O hx h2).pe (snE i O hx h3).pe (plainIx_as h1)
    · cases h
  | .tup ts, c, X, E, e, O, hx, h => by
    simp only [chkA] at h
    split at h
    · obtain ⟨n1, n2⟩ := chkAs_len (env := X.env) h
      exact s_tup O.calm (snAs ts O hx h) n1 n2
    · cases h
theorem snAs : ∀ (a : ITs) {c : Sc} {X : Cx} {E : XK} {e : List Expr}, Ok T c F ca k X → Passes (L2.CX X.prog X.w) X E → chkAs T c a e = true → PGs X e (gAs (gX X ca) E F a)
  | .nil, c, X, E, e, O, hx, h => by
    cases e with
    | nil => exact s_nil
    | cons _ _ => cases h
  | .cons a as, c, X, E, e, O, hx, h => by
    cases e with
    | nil => cases h
    | cons x xs =>
      obtain ⟨h1, h2, h3⟩ := tru3 h
      exact s_cons (snA a O hx h2) (snAs as O hx h3) (by rw [as_cons h1]; rfl)
end
end
end Iv

set_option maxRecDepth 10000
/-! Iv19: statements: what they stand for, soundness. -/
namespace Iv
open PySem PySem.Spec PyProof.Rows L2
/-- what a name = [..] on one line does with the new list -/
def swLc (c : Sc) (y : Str) (py p : Pos) (scope : Scope) : Bool := (match c.sc.kind with | .function => true | _ => false) && decide (c.sc.names.lookup y = some .local) && py.line == p.line && !(scope.names.any fun (n, k) => n == y && (k == .local || k == .cell))
def nameEx : Expr → Bool
  | .Name .. => true
  | _ => false
/-- a store of a tuple of things that aren't all plain names -/
def swNone (tg e : Expr) : Bool := match tg with
  | .Tuple ts _ _ => match e with
    | .Tuple .. => ts.any fun t => !nameEx t
    | _ => true
  | .List .. => false
  | _ => true
def lcScope : Expr → Option (Scope × Pos)
  | .ListComp _ _ s p => some (s, p)
  | _ => none
def nmT : IT → Bool
  | .nm _ => true
  | _ => false
def lcE : IE → Bool
  | .lc _ _ _ _ => true
  | _ => false
def dcScope : Expr → Option (Scope × Pos)
  | .DictComp _ _ _ s p => some (s, p)
  | _ => none
def dcE : IE → Bool
  | .dc _ _ _ _ => true
  | _ => false
def nameOf : Expr → Option (Str × Pos)
  | .Name y p => some (y, p)
  | _ => none
/-- how a comprehension's list is stored -/
def compOk (c : Sc) (t : IT) (a : IE) (tg e : Expr) : Bool := match lcScope e with
  | none => (match dcScope e with
    | none => noComp e
    | some (s, p) => match nameOf tg with
      | none => true
      | some (y, py) => !swLc c y py p s || (nmT t && dcE a))
  | some (s, p) => match nameOf tg with
    | none => true
    | some (y, py) => !swLc c y py p s || (nmT t && lcE a)
def chkAsg (T : Tb) (c : Sc) (t : IT) (a : IE) (tg e : Expr) : Bool := chkA T c t tg && chkE T c a e && swNone tg e && compOk c t a tg e
/-! ### raise, try -/
def xcG (T : Tb) (x : Str) (c : Nat) (fs : List Str) : Bool := match T.gl x with
  | some (.xc c' (some fs')) => decide (c' = c) && decide (fs' = fs)
  | _ => false
def clG (T : Tb) (x : Str) (d : Nat) : Bool := match T.gl x with
  | some (.xc c' _) => decide (c' = d) && T.xi.cls.contains d
  | _ => false
def chkIX (T : Tb) (c : Sc) : IX → Expr → Bool
  | .con d, e => match e with
    | .Constant k _ _ => conB d k
    | _ => false
  | .call f es, e => match e with
    | .Call (.Name x _) xs [] _ => glB c x && nmOk x && fnG T x f xs.length && chkEs T c es xs
    | _ => false
  | .callk f es q, e => match e with
    | .Call (.Name x _) (y :: ys) [⟨kn, v, _⟩] _ => glB c x && nmOk x && chkEs T c es (y :: ys) && (match fnkG T x f (ys.length + 1) with
      | none => false
      | some (kw, d0) => decide (kn = some kw) && chkE T c q v)
    | _ => false
def chkIXs (T : Tb) (c : Sc) : List IX → List Expr → Bool
  | [], e => match e with
    | [] => true
    | _ :: _ => false
  | x :: xs, e => match e with
    | y :: ys => nst y && chkIX T c x y && chkIXs T c xs ys
    | [] => false
def chkIB (T : Tb) (c : Sc) : IB → List Stmt → Bool
  | .expr x, s => match s with
    | [.Expr e _] => noComp e && chkIX T c x e
    | _ => false
  | .asg i x, s => match s with
    | [.Assign [.Name y _] e _] => decide (T.N[i]? = some y) && locB c y && noComp e && chkIX T c x e
    | _ => false
  | .asgT i xs, s => match s with
    | [.Assign [.Name y _] (.Tuple es _ _) _] => decide (T.N[i]? = some y) && locB c y && chkIXs T c xs es
    | _ => false
  | .ife q a b, s => match s with
    | [.If e p r _] => chkE T c q e && canT q && chkIB T c a p && chkIB T c b r
    | _ => false
/-- the error's own name -/
def errN (T : Tb) (c : Sc) (io : Option Nat) (n : Str) : Bool := match io with
  | some j => decide (T.N[j]? = some n) && decide (c.sc.names.lookup n = some .local) && nmOk n
  | none => false
def chkSV (T : Tb) (c : Sc) (io : Option Nat) : SV → Expr → Bool
  | .con d, e => match e with
    | .Constant k _ _ => conB d k
    | .UnaryOp .USub (.Constant (.int i) _ _) _ => (match d with
      | .int j => decide (j = -i)
      | _ => false)
    | _ => false
  | .fld f, e => match e with
    | .Attribute (.Name n _) g _ => decide (g = f) && errN T c io n && T.xi.flds.contains f
    | _ => false
def chkSVs (T : Tb) (c : Sc) (io : Option Nat) : List SV → List Expr → Bool
  | [], e => match e with
    | [] => true
    | _ :: _ => false
  | v :: vs, e => match e with
    | y :: ys => nst y && chkSV T c io v y && chkSVs T c io vs ys
    | [] => false
def chkSE (T : Tb) (c : Sc) (io : Option Nat) : SE → Expr → Bool
  | .at_ v, e => chkSV T c io v e
  | .tup vs, e => match e with
    | .Tuple es _ _ => chkSVs T c io vs es
    | _ => false
  | .lst vs, e => match e with
    | .List es _ => chkSVs T c io vs es
    | _ => false
def chkCN (T : Tb) (c : Sc) : List Nat → List Expr → Bool
  | [], e => match e with
    | [] => true
    | _ :: _ => false
  | d :: ds, e => match e with
    | .Name x _ :: ys => glB c x && nmOk x && clG T x d && chkCN T c ds ys
    | _ => false
def chkSQ (T : Tb) (c : Sc) (io : Option Nat) : SQ → Expr → Bool
  | .isi d, e => match e with
    | .Call (.Name z _) [.Name n _, .Name x _] [] _ => decide (z = "isinstance") && glB c z && errN T c io n && glB c x && nmOk x && clG T x d
    | _ => false
  | .ism ds, e => match e with
    | .Call (.Name z _) [.Name n _, .Tuple es _ _] [] _ => decide (z = "isinstance") && glB c z && errN T c io n && decide (ds.length ≤ 100) && chkCN T c ds es
    | _ => false
  | .not a, e => match e with
    | .UnaryOp .Not x _ => chkSQ T c io a x
    | _ => false
  | .and a b, e => match e with
    | .BoolOp .And [x, y] _ => chkSQ T c io a x && chkSQ T c io b y
    | _ => false
mutual
def chkSU (T : Tb) (c : Sc) (io : Option Nat) : SU → Stmt → Bool
  | .asg j e, s => match s with
    | .Assign [.Name y _] x _ => decide (T.N[j]? = some y) && locB c y && noComp x && chkSE T c io e x
    | _ => false
  | .ife q a, s => match s with
    | .If e ss [] _ => chkSQ T c io q e && chkSUs T c io a ss
    | _ => false
def chkSUs (T : Tb) (c : Sc) (io : Option Nat) : SUs → List Stmt → Bool
  | .nil, s => match s with
    | [] => true
    | _ :: _ => false
  | .cons a r, s => match s with
    | x :: xs => chkSU T c io a x && chkSUs T c io r xs
    | [] => false
end
def errO (T : Tb) (c : Sc) (io : Option Nat) (n : Option Str) : Bool := match io, n with
  | none, none => true
  | some j, some n => errN T c (some j) n
  | _, _ => false
def chkTry (T : Tb) (c : Sc) (b : IB) (io : Option Nat) (d : Nat) (ids : List Nat) (su : SUs) : Stmt → Bool
  | .Try body [.ExceptHandler (some (.Name x _)) n (b0 :: suite) _] [] [] _ => chkIB T c b body && errO T c io n && (glB c x && nmOk x && clG T x d) && ids.all (fun i => T.xi.ids.contains i) && chkSUs T c io su (b0 :: suite)
  | _ => false
mutual
def chkS (T : Tb) (c : Sc) : IS → Stmt → Bool
  | .expr a, s => match s with
    | .Expr e _ => noComp e && chkE T c a e
    | _ => false
  | .asg t a, s => match s with
    | .Assign [tg] e _ => chkAsg T c t a tg e
    | _ => false
  | .par2 i j a b, s => match s with
    | .Assign [.Tuple [.Name x px, .Name y py] _ _] (.Tuple [e, f] _ _) _ => decide (T.N[i]? = some x) && decide (T.N[j]? = some y) && decide (i ≠ j) && decide (x ≠ y) && decide (c.sc.names.lookup x = some .local) && decide (c.sc.names.lookup y = some .local) &&
        chkE T c a e && chkE T c b f && nst e && nst f && (px.line == py.line) && !(([e, f] : List Expr).all (foldedForSure 8)) && !(([e, f] : List Expr).all (constantsAlone 8)) && (match c.sc.kind with | .function => true | _ => false)
    | _ => false
  | .aug op i a, s => match s with
    | .AugAssign (.Name x _) o e _ => decide (o = op) && (decide (op = .Add) || decide (op = .Sub)) && decide (T.N[i]? = some x) && locB c x && chkE T c a e
    | _ => false
  | .ret a, s => match s with
    | .Return e _ => match a, e with
      | .none, none => true
      | .some a, some e => chkE T c a e
      | _, _ => false
    | _ => false
  | .ife a p q, s => match s with
    | .If e b d _ => chkE T c a e && canT a && chkSs T c p b && chkSs T c q d
    | _ => false
  | .whl a p, s => match s with
    | .While e b [] _ => chkE T c a e && canT a && chkSs T c p b
    | _ => false
  | .for_ t it p, s => match s with
    | .For tg e b [] _ => chkI T c it t tg e && noSet e && chkA T c t tg && chkSs T c p b
    | _ => false
  | .forK t i p, s => match s with
    | .For tg (.Name x _) b [] _ => decide (T.N[i]? = some x) && visB c x && nmOk x && chkA T c t tg && chkSs T c p b
    | _ => false
  | .brk, s => match s with
    | .Break _ => true
    | _ => false
  | .cnt, s => match s with
    | .Continue _ => true
    | _ => false
  | .pas, s => match s with
    | .Pass _ => true
    | _ => false
  | .nev, _ => true
  | .rse k fs as, s => match s with
    | .Raise (some (.Call (.Name x _) (y :: ys) [] _)) none _ => glB c x && nmOk x && xcG T x k fs && chkEs T c as (y :: ys)
    | _ => false
  | .try_ b io d ids su, s => chkTry T c b io d ids su s
def chkSs (T : Tb) (c : Sc) : ISs → List Stmt → Bool
  | .nil, s => match s with
    | [] => true
    | _ :: _ => false
  | .cons a as, s => match s with
    | x :: xs => chkS T c a x && chkSs T c as xs
    | [] => false
end
section
variable {T : Tb} {F : Fns} {ca : Nat → Addr} {k : Nat} {X : Cx} {c : Sc} {E : XK}
theorem filt_short : ∀ {ts : List Expr} (f : Expr → Option Str), (∀ t, f t ≠ none → nameEx t = true) → (ts.any fun t => !nameEx t) = true → (ts.filterMap f).length < ts.length
  | [], f, hf, h => by cases h
  | t :: ts, f, hf, h => by
    rw [List.any_cons] at h
    have le : (ts.filterMap f).length ≤ ts.length := List.length_filterMap_le f ts
    by_cases ht : nameEx t = true
    · rw [ht] at h
      have i := filt_short f hf (show (ts.any fun t => !nameEx t) = true from h)
      rw [List.filterMap_cons]
      cases f t with
      | none => dsimp only; rw [List.length_cons]; omega
      | some _ => dsimp only; rw [List.length_cons, List.length_cons]; omega
    · have : f t = none := by
        cases e : f t with
        | none => rfl
        | some x => exact absurd (hf t (by rw [e]; exact fun z => nomatch z)) ht
      rw [List.filterMap_cons, this]
      dsimp only
      rw [List.length_cons]
      omega
theorem swNone_ok {tg e : Expr} {env : PySem.Env} (h : swNone tg e = true) : swappedStores [tg] e env = pure none := by
  unfold swNone at h
  split at h
  · rename_i ts a b
    split at h
    · rename_i vs a2 b2
      unfold swappedStores
      dsimp only
      split
      · rfl
      · split
        · rfl
        · split
          · rfl
          · rename_i hc
            refine absurd ?_ hc
            rw [Bool.or_eq_true]
            left
            refine (fun f hf => ?_ : ∀ f : Expr → Option Str, (∀ t, f t ≠ none → nameEx t = true) → ((ts.filterMap f).length != ts.length) = true) _ fun t ht => ?_
            · have := filt_short f hf h
              rw [bne_iff_ne]
              omega
            · cases t <;> first | rfl | exact absurd rfl ht
    · rename_i hne
      unfold swappedStores
      cases e <;> first | rfl | exact absurd rfl (hne _ _ _)
  · cases h
  · rename_i h1 h2
    unfold swappedStores
    cases tg <;> first | rfl | exact absurd rfl (h1 _ _ _) | exact absurd rfl (h2 _ _)
theorem swap_lc {elt : Expr} {gs : List Comprehension} {scope : Scope} {p py : Pos} {y : Str} {n : Nat} (h : X.env.scope = c.sc) (hk : c.sc.kind = .function) : swapsWith (.ListComp elt gs scope p) (some (.Name y py)) n X.env = pure (swLc c y py p scope) := by
  unfold swapsWith
  dsimp only
  have e1 : X.env.blockKind = .function := by
    show (if X.env.scope.kind.isAnnotationScope then _ else _) = _
    rw [h, hk]
    rfl
  have e2 : X.env.kindOf y = c.sc.names.lookup y := by
    show X.env.scope.names.lookup y = _
    rw [h]
  rw [e1, e2]
  show pure (_ && _ && _ && _) = pure _
  congr 1
  unfold swLc
  rw [hk]
  congr 2
  congr 1
  cases hl : c.sc.names.lookup y with
  | none => rfl
  | some q => cases q <;> rfl
theorem swap_dc {kx vx : Expr} {gs : List Comprehension} {scope : Scope} {p py : Pos} {y : Str} {n : Nat} (h : X.env.scope = c.sc) (hk : c.sc.kind = .function) : swapsWith (.DictComp kx vx gs scope p) (some (.Name y py)) n X.env = pure (swLc c y py p scope) := by
  unfold swapsWith
  dsimp only
  have e1 : X.env.blockKind = .function := by
    show (if X.env.scope.kind.isAnnotationScope then _ else _) = _
    rw [h, hk]
    rfl
  have e2 : X.env.kindOf y = c.sc.names.lookup y := by
    show X.env.scope.names.lookup y = _
    rw [h]
  rw [e1, e2]
  show pure (_ && _ && _ && _) = pure _
  congr 1
  unfold swLc
  rw [hk]
  congr 2
  congr 1
  cases hl : c.sc.names.lookup y with
  | none => rfl
  | some q => cases q <;> rfl
theorem dcScope_eq {e : Expr} {s : Scope} {p : Pos} (h : dcScope e = some (s, p)) : ∃ kx vx gs, e = .DictComp kx vx gs s p := by
  unfold dcScope at h
  split at h
  · cases h
    exact ⟨_, _, _, rfl⟩
  · cases h
structure OkS (T : Tb) (c : Sc) (F : Fns) (ca : Nat → Addr) (k : Nat) (X : Cx) (E : XK) : Prop extends Ok T c F ca k X where
  hx : Passes (L2.CX X.prog X.w) X E
  hp : PassesOwn (model X.prog X.w) X.A X.env X.xe
  fk : c.sc.kind = .function
  tk : Takes X (fun cls d _ H => E cls d H)
  st : X.stack = X.env :: X.outer
  fr : X.env.frame = some X.env.locals
theorem swaps_none {e : Expr} {tg : Expr} {n : Nat} {env : PySem.Env} (h : ∀ x p, tg ≠ .Name x p) : swapsWith e (some tg) n env = pure false := by
  unfold swapsWith
  split
  · cases tg <;> first | rfl | exact absurd rfl (h _ _)
  · rfl
theorem lcScope_eq {e : Expr} {s : Scope} {p : Pos} (h : lcScope e = some (s, p)) : ∃ elt gs, e = .ListComp elt gs s p := by
  unfold lcScope at h
  split at h
  · cases h
    exact ⟨_, _, rfl⟩
  · cases h
theorem nameOf_eq {e : Expr} {y : Str} {p : Pos} (h : nameOf e = some (y, p)) : e = .Name y p := by
  unfold nameOf at h
  split at h
  · cases h
    rfl
  · cases h
theorem asg_ok {t : IT} {a : IE} {tg e : Expr} {pos : Pos} (O : OkS T c F ca k X E) (h : chkAsg T c t a tg e = true) : PS X (.Assign [tg] e pos) (tS (gX X ca) E F (.asg t a)) := by
  unfold chkAsg at h
  obtain ⟨h, h4⟩ := tru2 h
  obtain ⟨h1, h2, h3⟩ := tru3 h
  have nt : nst tg = true := by cases t <;> simp only [chkA] at h1 <;> (split at h1) <;> first | rfl | cases h1
  have plain : swapsWithSole [tg] e pos.line X.env = pure false → PS X (.Assign [tg] e pos) (tS (gX X ca) E F (.asg t a)) := fun hs =>
    st_asg (snE a O.toOk O.hx h2).pe (snA t O.toOk O.hx h1) hs (swNone_ok h3) (by rw [as_cons nt]; rfl)
  unfold compOk at h4
  cases hl : lcScope e with
  | none =>
    rw [hl] at h4
    cases hd : dcScope e with
    | none =>
      rw [hd] at h4
      exact plain (noComp_swaps h4)
    | some sp =>
      obtain ⟨scope, p⟩ := sp
      obtain ⟨kx, vx, gs, rfl⟩ := dcScope_eq hd
      rw [hd] at h4
      cases hn : nameOf tg with
      | none =>
        exact plain (show swapsWith (.DictComp kx vx gs scope p) (some tg) pos.line X.env = pure false from swaps_none fun x p e => by rw [e] at hn; cases hn)
      | some yp =>
        obtain ⟨y, py⟩ := yp
        obtain rfl := nameOf_eq hn
        rw [hn] at h4
        cases hw : swLc c y py p scope with
        | false => exact plain (show swapsWith (.DictComp kx vx gs scope p) (some (.Name y py)) pos.line X.env = pure false from (swap_dc (n := pos.line) (X := X) O.sc O.fk).trans (by rw [hw]))
        | true =>
          have h4 : (!swLc c y py p scope || (nmT t && dcE a)) = true := h4
          rw [hw] at h4
          obtain ⟨h5, h6⟩ := tru2 (show (nmT t && dcE a) = true from h4)
          cases t with
          | nm i =>
            cases a with
            | dc b d t2 it =>
              simp only [chkE] at h2
              split at h2
              · rename_i kx vx tg iter scope pos' hh
                cases hh
                obtain ⟨ga, gb⟩ := tru2 h2
                obtain ⟨g1, g2, g3⟩ := tru3 ga
                obtain ⟨g4, g5, g6⟩ := tru3 gb
                have ok : BlkOk X.N X.env.scope scope (ownT T t2) := by
                  rw [O.N, O.sc]
                  exact blkOk_by g3
                have hy : X.N[i]? = some y := by
                  rw [O.N]
                  exact of_decide_eq_true (tru2 (show (decide (T.N[i]? = some y) && locB c y) = true from h1)).1
                have hyl : X.env.scope.names.lookup y = some .local := by
                  rw [O.sc]
                  unfold swLc at hw
                  simp only [Bool.and_eq_true, decide_eq_true_eq] at hw
                  exact hw.1.1.2
                exact st_setDc O.calm O.nd hy hyl (by rw [swap_dc O.sc O.fk, hw]) (snI it t2 O.toOk O.hx g1) ok own_ix (fun s H C cl fp => snT t2 (O.toOk.blk s H scope C cl fp) g4) (fun s H C cl fp => (snE b (O.toOk.blk s H scope C cl fp) passL g5).pe) (fun s H C cl fp => (snE d (O.toOk.blk s H scope C cl fp) passL g6).pe) (noSet_fold g2)
              · cases h2
            | _ => cases h6
          | _ => cases h5
  | some sp =>
    obtain ⟨scope, p⟩ := sp
    obtain ⟨elt, gs, rfl⟩ := lcScope_eq hl
    rw [hl] at h4
    cases hn : nameOf tg with
    | none =>
      exact plain (show swapsWith (.ListComp elt gs scope p) (some tg) pos.line X.env = pure false from swaps_none fun x p e => by rw [e] at hn; cases hn)
    | some yp =>
      obtain ⟨y, py⟩ := yp
      obtain rfl := nameOf_eq hn
      rw [hn] at h4
      cases hw : swLc c y py p scope with
      | false => exact plain (show swapsWith (.ListComp elt gs scope p) (some (.Name y py)) pos.line X.env = pure false from (swap_lc (n := pos.line) (X := X) O.sc O.fk).trans (by rw [hw]))
      | true =>
        have h4 : (!swLc c y py p scope || (nmT t && lcE a)) = true := h4
        rw [hw] at h4
        obtain ⟨h5, h6⟩ := tru2 (show (nmT t && lcE a) = true from h4)
        cases t with
        | nm i =>
          cases a with
          | lc b t2 it q =>
            simp only [chkE] at h2
            split at h2
            · rename_i elt tg iter ifs scope pos' hh
              cases hh
              obtain ⟨h2, g5, g6⟩ := tru3 h2
              obtain ⟨h2, g3, g4⟩ := tru3 h2
              obtain ⟨g1, g2⟩ := tru2 h2
              have ok : BlkOk X.N X.env.scope scope (ownT T t2) := by
                rw [O.N, O.sc]
                exact blkOk_by g3
              have hy : X.N[i]? = some y := by
                rw [O.N]
                exact of_decide_eq_true (tru2 (show (decide (T.N[i]? = some y) && locB c y) = true from h1)).1
              have hyl : X.env.scope.names.lookup y = some .local := by
                rw [O.sc]
                unfold swLc at hw
                simp only [Bool.and_eq_true, decide_eq_true_eq] at hw
                exact hw.1.1.2
              exact st_setLc O.calm O.nd hy hyl (by rw [swap_lc O.sc O.fk, hw]) (snI it t2 O.toOk O.hx g1) ok own_ix (fun s H C cl fp => snT t2 (O.toOk.blk s H scope C cl fp) g4) (fun s H C cl fp => snC q (O.toOk.blk s H scope C cl fp) passL g5) (fun s H C cl fp => (snE b (O.toOk.blk s H scope C cl fp) passL g6).pe) (noSet_fold g2)
            · cases h2
          | _ => cases h6
        | _ => cases h5
theorem par_ok {e f : Expr} {x y : Str} {px py pt pt2 : Pos} {kt k2 : Nat} (he : nst e = true) (hf : nst f = true) (hk : c.sc.kind = .function) (hs : X.env.scope = c.sc) (hx : c.sc.names.lookup x = some .local) (hy : c.sc.names.lookup y = some .local) (hl : (px.line == py.line) = true) (hxy : x ≠ y)
    (h1 : (([e, f] : List Expr).all (foldedForSure 8)) = false) (h2 : (([e, f] : List Expr).all (constantsAlone 8)) = false) : swappedStores [.Tuple [.Name x px, .Name y py] kt pt] (.Tuple [e, f] k2 pt2) X.env = pure (some [x, y]) := by
  have e1 : X.env.blockKind = .function := by
    show (if X.env.scope.kind.isAnnotationScope then _ else _) = _
    rw [hs, hk]
    rfl
  have kx : X.env.kindOf x = some .local := by show X.env.scope.names.lookup x = _; rw [hs, hx]
  have ky : X.env.kindOf y = some .local := by show X.env.scope.names.lookup y = _; rw [hs, hy]
  have hl' : py.line = px.line := by simpa using (beq_iff_eq.mp hl).symm
  have hyx : (y == x) = false := beq_eq_false_iff_ne.mpr fun z => hxy z.symm
  unfold swappedStores
  dsimp only
  rw [if_neg (by rw [e1]; simp)]
  split
  · rename_i hst
    rw [List.any_cons, List.any_cons, List.any_nil, Bool.or_false] at hst
    rcases Bool.or_eq_true_iff.mp hst with z | z
    · split at z
      · cases he
      · cases z
    · split at z
      · cases hf
      · cases z
  · have q1 : ((Expr.Name x px).pos.line) = px.line := rfl
    simp only [List.filterMap_cons, List.filterMap_nil, kx, ky, hl', q1, List.head?_cons, Option.map_some, Option.getD_some, beq_self_eq_true, Bool.and_self, if_true, h1, h2, Bool.false_eq_true, if_false]
    simp [List.eraseDups_cons, hyx, h1, h2]
/-! ### soundness of raise, try -/
theorem Ok.tr (O : Ok T c F ca k X) (pn : List (Addr × Obj)) (xe : Value → Shared → Prop) : Ok T c F ca k (X.tr pn xe) := by
  refine ⟨O.N, O.nd, O.sc, O.fl, O.calm, O.room, O.gd, O.bl, fun x v h => ?_, O.xi⟩
  have q := O.gl x v h
  cases v with
  | con d => exact q
  | fn f ps =>
    obtain ⟨a, fd, h1, h2, h3, h4⟩ := (show Own X F ca (k + 2) f x ps from q).ex
    exact (⟨a, fd, h1, h2, h3, h4⟩ : Own (X.tr pn xe) F ca (k + 2) f x ps)
  | fnk f ps kw d0 => exact (⟨(show OwnK X F ca (k + 2) f x ps kw d0 from q).ex⟩ : OwnK (X.tr pn xe) F ca (k + 2) f x ps kw d0)
  | xc c ri =>
    obtain ⟨q1, q2⟩ := (show X.mg x = some (.ref (ca c)) ∧ ∀ fs, ri = some fs → XCls X ca c x fs from q)
    exact ⟨q1, fun fs e => ⟨(q2 fs e).ex⟩⟩
theorem snIX {Es : XS} (hx : ∀ σ, PassesAt (L2.CX X.prog X.w) X σ (Es σ)) (O : Ok T c F ca k X) : ∀ (a : IX) {e : Expr}, chkIX T c a e = true → PE X e (tIX (gX X ca) Es F a)
  | .con d, e, h => by
    simp only [chkIX] at h
    split at h
    · rename_i q j pos
      cases d <;> cases q <;> first | cases h | skip
      · exact ix_con pe_non fun _ _ => rfl
      · obtain rfl := of_decide_eq_true h
        exact ix_con pe_bl fun _ _ => rfl
      · obtain rfl := of_decide_eq_true h
        exact ix_con pe_int fun _ _ => rfl
      · obtain rfl := of_decide_eq_true h
        exact ix_con pe_str fun _ _ => rfl
    · cases h
  | .call f es, e, h => by
    simp only [chkIX] at h
    split at h
    · rename_i x p xs pos
      obtain ⟨h, h4⟩ := tru2 h
      obtain ⟨h1, h2, h3⟩ := tru3 h
      unfold fnG at h3
      split at h3
      · rename_i g ps hg
        obtain ⟨e1, e2⟩ := tru2 h3
        obtain rfl := of_decide_eq_true e1
        refine ix_call (O.gl _ _ hg) O.room O.gd hx (O.glob h1) (nm1 h2) (snEs es O passF h4) (chkEs_all (F := F) h4).1 fun z => ?_
        subst z
        cases es with
        | nil => rfl
        | cons _ _ => cases h4
      · cases h3
    · cases h
  | .callk f es q, e, h => by
    simp only [chkIX] at h
    split at h
    · rename_i x p y ys kn v kp pos
      obtain ⟨h, h5⟩ := tru2 h
      obtain ⟨h1, h2, h3⟩ := tru3 h
      obtain ⟨al, hE⟩ := chkEs_all (F := F) h3
      split at h5
      · cases h5
      · rename_i kw d0 hk
        obtain ⟨ps, hg, hn⟩ := fnkG_ok hk
        obtain ⟨h6, h7⟩ := tru2 h5
        obtain rfl := of_decide_eq_true h6
        exact ix_callk (O.gl _ _ hg) O.room O.gd hx (O.glob h1) (nm1 h2) (snEs es O passF h3) (snE q O (E := E0) passF h7).pe al hn.symm hE
    · cases h
theorem snIXs {Es : XS} (hx : ∀ σ, PassesAt (L2.CX X.prog X.w) X σ (Es σ)) (O : Ok T c F ca k X) : ∀ (a : List IX) {e : List Expr}, chkIXs T c a e = true → PA X e (tIXs (gX X ca) Es F a)
  | [], e, h => by
    cases e with
    | nil => exact ixs_nil
    | cons _ _ => cases h
  | x :: xs, e, h => by
    cases e with
    | nil => cases h
    | cons y ys =>
      obtain ⟨h1, h2, h3⟩ := tru3 (show (nst y && chkIX T c x y && chkIXs T c xs ys) = true from h)
      exact ixs_cons (snIX hx O x h2) (snIXs hx O xs h3) h1
theorem snIB {Es : XS} (hx : ∀ σ, PassesAt (L2.CX X.prog X.w) X σ (Es σ)) (O : Ok T c F ca k X) : ∀ (b : IB) {s : List Stmt}, chkIB T c b s = true → PSs X s (tIB (gX X ca) Es F b)
  | .expr x, s, h => by
    simp only [chkIB] at h
    split at h
    · obtain ⟨h1, h2⟩ := tru2 h
      refine PSs.imp (pss_one (ps_expr (snIX hx O x h2) (noComp_swaps h1))) fun D σ H q => ?_
      obtain ⟨μ, ρ, S, r, sl, p⟩ := q
      have p : PostS _ (Es σ) D ((evIX F x ρ S).bindS fun _ S1 => .nx ρ S1) μ H := p
      exact ⟨μ, ρ, S, r, sl, p.bindS.imp fun d S1 μ1 H1 e1 r1 q v hv => q.okN r1 (sl.mono e1)⟩
    · cases h
  | .asg i x, s, h => by
    simp only [chkIB] at h
    split at h
    · obtain ⟨h, h4⟩ := tru2 h
      obtain ⟨h1, h2, h3⟩ := tru3 h
      obtain ⟨l1, l2⟩ := O.loc h2
      refine PSs.imp (pss_one (ps_set O.nd (by rw [O.N]; exact of_decide_eq_true h1) l1 (snIX hx O x h4) (noComp_swaps h3) l2)) fun D σ H q => ?_
      obtain ⟨μ, ρ, S, r, sl, p⟩ := q
      have p : PostS _ (Es σ) D ((evIX F x ρ S).bindS fun d S1 => if i < ρ.length then .nx (ρ.set i (some d)) S1 else .bad) μ H := p
      refine ⟨μ, ρ, S, r, sl, p.bindS.imp fun d S1 μ1 H1 e1 r1 q v hv => ?_⟩
      by_cases z : i < ρ.length
      · rw [if_pos z] at q
        exact q μ1 H1 _ Ext.refl r1 ((sl.mono e1).set i hv)
      · rw [if_neg z] at q
        exact q.elim
    · cases h
  | .asgT i xs, s, h => by
    simp only [chkIB] at h
    split at h
    · obtain ⟨h1, h2, h4⟩ := tru3 h
      obtain ⟨l1, l2⟩ := O.loc h2
      refine PSs.imp (pss_one (ps_set O.nd (by rw [O.N]; exact of_decide_eq_true h1) l1 (ixs_tup (snIXs hx O xs h4)) (noComp_swaps rfl) l2)) fun D σ H q => ?_
      obtain ⟨μ, ρ, S, r, sl, p⟩ := q
      have p : PostS (gX X ca) (Es σ) D ((evIXs F xs ρ S).bindS fun ds S1 => if ds.length ≤ sizeLine ∧ i < ρ.length then .nx (ρ.set i (some (.tup ds))) S1 else .bad) μ H := p
      refine ⟨μ, ρ, S, r, sl, ?_⟩
      have p2 := p.bindS
      cases he : evIXs F xs ρ S with
      | ok ds S1 =>
        rw [he] at p2
        show Post (gX X ca) (Es σ) (if ds.length ≤ sizeLine then .ok (_root_.Iv.D.tup ds) S1 else .bad) μ H _
        by_cases z : ds.length ≤ sizeLine ∧ i < ρ.length
        · rw [if_pos z.1]
          intro μ1 H1 e1 r1 v hv
          have q : PostS (gX X ca) (Es σ) D (if ds.length ≤ sizeLine ∧ i < ρ.length then .nx (ρ.set i (some (.tup ds))) S1 else .bad) μ1 H1 := p2 μ1 H1 e1 r1
          rw [if_pos z] at q
          exact q μ1 H1 _ Ext.refl r1 ((sl.mono e1).set i hv)
        · have q := p
          rw [he] at q
          have q : PostS (gX X ca) (Es σ) D (if ds.length ≤ sizeLine ∧ i < ρ.length then .nx (ρ.set i (some (.tup ds))) S1 else .bad) μ H := q
          rw [if_neg z] at q
          exact q.elim
      | ex _ _ _ => rw [he] at p; exact p
      | bad => rw [he] at p; exact p.elim
    · cases h
  | .ife q a b, s, h => by
    simp only [chkIB] at h
    split at h
    · obtain ⟨h, h3, h4⟩ := tru3 h
      obtain ⟨h1, h2⟩ := tru2 h
      refine PSs.imp (pss_one (ps_if ((snE q O (E := E0) passF h1).pt h2) (snIB hx O a h3) (snIB hx O b h4))) fun D σ H w => ?_
      obtain ⟨μ, ρ, S, r, sl, p⟩ := w
      have p : PostS _ (Es σ) D (match (evE F q ρ S).bind truO with
        | .ok k S1 => if k then evIB F a ρ S1 else evIB F b ρ S1
        | _ => .bad) μ H := p
      cases he : (evE F q ρ S).bind truO with
      | ok kk S1 =>
        rw [he] at p
        refine ⟨μ, ρ, S, r, sl, ?_⟩
        rw [he]
        intro μ1 H1 e1 r1
        have p : PostS _ (Es σ) D (if kk then evIB F a ρ S1 else evIB F b ρ S1) μ H := p
        cases kk with
        | true => exact ⟨μ1, ρ, S1, r1, sl.mono e1, PostS.pre e1 p⟩
        | false => exact ⟨μ1, ρ, S1, r1, sl.mono e1, PostS.pre e1 p⟩
      | ex _ _ _ => rw [he] at p; exact p.elim
      | bad => rw [he] at p; exact p.elim
    · cases h
section
variable {io : Option Nat} {a : Addr} {oe : Obj} {cls : Value} {d : Option Addr} {pn : List (Addr × Obj)} {ids : List Nat}
theorem XIds.sub {K : PySem.W.Frag} {ids ids' cl : List Nat} {flds : List Str} (V : XIds K ca ids cl flds) (h : ids'.all (fun i => ids.contains i) = true) : XIds K ca ids' cl flds := by
  have m : ∀ i ∈ ids', i ∈ ids := fun i hi => by simpa using List.all_eq_true.mp h i hi
  exact ⟨fun c hc => V.xf c (m c hc), fun c hc => V.ex c (m c hc), fun c hc => V.no c (m c hc), fun c hc => V.kit c (m c hc), fun c hc => V.exm c (m c hc)⟩
theorem errN_pe (O : Ok T c F ca k X) {n : Str} {p : Pos} (h : errN T c io n = true) : ∃ j, io = some j ∧ PE (YY X a oe pn) (.Name n p) (tVar j) := by
  unfold errN at h
  split at h
  · rename_i j
    obtain ⟨h1, h2, h3⟩ := tru3 h
    exact ⟨j, rfl, pe_var (X := YY X a oe pn) (by show X.N[j]? = _; rw [O.N]; exact of_decide_eq_true h1) (.inl (by show X.env.scope.names.lookup n = _; rw [O.sc]; exact of_decide_eq_true h2)) (nm1 h3) (nm2 h3)⟩
  · cases h
theorem clG_pe (O : Ok T c F ca k X) {x : Str} {d0 : Nat} {p : Pos} (h1 : glB c x = true) (h2 : nmOk x = true) (h3 : clG T x d0 = true) : d0 ∈ T.xi.cls ∧ X.mg x = some (.ref (ca d0)) ∧ PE (YY X a oe pn) (.Name x p) (L2.tC (.ref (ca d0))) := by
  unfold clG at h3
  split at h3
  · rename_i c' ri hg
    obtain ⟨e1, e2⟩ := tru2 h3
    obtain rfl := of_decide_eq_true e1
    have q := (O.gl x _ hg).1
    exact ⟨by simpa using e2, q, pe_glob (X := YY X a oe pn) (O.glob h1) q rfl (nm1 h2)⟩
  · cases h3
theorem snSV (O : Ok T c F ca k X) (V : XIds X.K ca ids T.xi.cls T.xi.flds) (hz : Zc cls d oe) (hf : ∃ vs, oe.data = .fields vs) : ∀ (v : SV) {e : Expr}, chkSV T c io v e = true → PE (YY X a oe pn) e (tSV (gX X ca) io a cls d ids v)
  | .con q, e, h => by
    simp only [chkSV] at h
    split at h
    · rename_i kk j pos
      cases q <;> cases kk <;> first | cases h | skip
      · exact sv_con pe_non fun _ _ => rfl
      · obtain rfl := of_decide_eq_true h
        exact sv_con pe_bl fun _ _ => rfl
      · obtain rfl := of_decide_eq_true h
        exact sv_con pe_int fun _ _ => rfl
      · obtain rfl := of_decide_eq_true h
        exact sv_con pe_str fun _ _ => rfl
    · rename_i i j p pos
      split at h
      · obtain rfl := of_decide_eq_true h
        refine sv_con (v := .int (-i)) (PE.imp (pe_un un_neg pe_int) fun σ H Q q => ⟨i, rfl, q⟩) fun _ _ => rfl
      · cases h
    · cases h
  | .fld f, e, h => by
    simp only [chkSV] at h
    split at h
    · obtain ⟨h1, h2, h3⟩ := tru3 h
      obtain rfl := of_decide_eq_true h1
      obtain ⟨j, hj, hn⟩ := errN_pe (a := a) (oe := oe) (pn := pn) O h2
      exact sv_fld V (by simpa using h3) hj hn hz hf
    · cases h
theorem snSVs (O : Ok T c F ca k X) (V : XIds X.K ca ids T.xi.cls T.xi.flds) (hz : Zc cls d oe) (hf : ∃ vs, oe.data = .fields vs) : ∀ (v : List SV) {e : List Expr}, chkSVs T c io v e = true → PA (YY X a oe pn) e (tSVs (gX X ca) io a cls d ids v)
  | [], e, h => by
    cases e with
    | nil => exact svs_nil
    | cons _ _ => cases h
  | v :: vs, e, h => by
    cases e with
    | nil => cases h
    | cons y ys =>
      obtain ⟨h1, h2, h3⟩ := tru3 (show (nst y && chkSV T c io v y && chkSVs T c io vs ys) = true from h)
      exact svs_cons (snSV O V hz hf v h2) (snSVs O V hz hf vs h3) h1
theorem snSE (O : Ok T c F ca k X) (V : XIds X.K ca ids T.xi.cls T.xi.flds) (hz : Zc cls d oe) (hf : ∃ vs, oe.data = .fields vs) : ∀ (v : SE) {e : Expr}, chkSE T c io v e = true → PE (YY X a oe pn) e (tSE (gX X ca) io a cls d ids v)
  | .at_ v, e, h => se_at (snSV O V hz hf v h)
  | .tup vs, e, h => by
    simp only [chkSE] at h
    split at h
    · exact se_tup (snSVs O V hz hf vs h)
    · cases h
  | .lst vs, e, h => by
    simp only [chkSE] at h
    split at h
    · exact se_lst (snSVs O V hz hf vs h)
    · cases h
theorem chkCN_ok (O : Ok T c F ca k X) : ∀ {ds : List Nat} {es : List Expr}, chkCN T c ds es = true → CNm (YY X a oe pn) ca ds es ∧ ∀ d ∈ ds, d ∈ T.xi.cls
  | [], es, h => by
    cases es with
    | nil => exact ⟨.nil, fun _ z => nomatch z⟩
    | cons _ _ => cases h
  | d0 :: ds, es, h => by
    simp only [chkCN] at h
    split at h
    · obtain ⟨h, h4⟩ := tru2 h
      obtain ⟨h1, h2, h3⟩ := tru3 h
      obtain ⟨m, _, q⟩ := clG_pe (a := a) (oe := oe) (pn := pn) O h1 h2 h3
      obtain ⟨i1, i2⟩ := chkCN_ok O h4
      refine ⟨.cons q i1, fun d hd => ?_⟩
      rcases List.mem_cons.mp hd with rfl | hd
      · exact m
      · exact i2 d hd
    · cases h
theorem snSQ (O : Ok T c F ca k X) (V : XIds X.K ca ids T.xi.cls T.xi.flds) (hz : Zc cls d oe) (hf : ∃ vs, oe.data = .fields vs) : ∀ (q : SQ) {e : Expr}, chkSQ T c io q e = true → PT (YY X a oe pn) e (tSQ (gX X ca) io a cls d ids q)
  | .isi d0, e, h => by
    simp only [chkSQ] at h
    split at h
    · simp only [Bool.and_eq_true, decide_eq_true_eq] at h
      obtain ⟨⟨⟨⟨⟨rfl, h2⟩, h3⟩, h4⟩, h5⟩, h6⟩ := h
      obtain ⟨j, hj, hn⟩ := errN_pe (a := a) (oe := oe) (pn := pn) O h3
      obtain ⟨m, _, q⟩ := clG_pe (a := a) (oe := oe) (pn := pn) O h4 h5 h6
      exact sq_isi V hj hn q m (O.glob h2) (O.bl _ (by decide +kernel)) hz hf
    · cases h
  | .ism ds, e, h => by
    simp only [chkSQ] at h
    split at h
    · simp only [Bool.and_eq_true, decide_eq_true_eq] at h
      obtain ⟨⟨⟨⟨rfl, h2⟩, h3⟩, h4⟩, h5⟩ := h
      obtain ⟨j, hj, hn⟩ := errN_pe (a := a) (oe := oe) (pn := pn) O h3
      obtain ⟨q, m⟩ := chkCN_ok (a := a) (oe := oe) (pn := pn) O h5
      exact sq_ism V hj hn q m h4 (O.glob h2) (O.bl _ (by decide +kernel)) hz hf
    · cases h
  | .not q, e, h => by
    simp only [chkSQ] at h
    split at h
    · exact sq_not (snSQ O V hz hf q h)
    · cases h
  | .and q q', e, h => by
    simp only [chkSQ] at h
    split at h
    · obtain ⟨h1, h2⟩ := tru2 h
      exact sq_and (snSQ O V hz hf q h1) (snSQ O V hz hf q' h2)
    · cases h
mutual
theorem snSU (O : Ok T c F ca k X) (V : XIds X.K ca ids T.xi.cls T.xi.flds) (hz : Zc cls d oe) (hf : ∃ vs, oe.data = .fields vs) : ∀ (s : SU) {e : Stmt}, chkSU T c io s e = true → PS (YY X a oe pn) e (tSU (gX X ca) io a cls d ids s)
  | .asg j se, e, h => by
    simp only [chkSU] at h
    split at h
    · obtain ⟨h, h4⟩ := tru2 h
      obtain ⟨h1, h2, h3⟩ := tru3 h
      obtain ⟨l1, l2⟩ := O.loc h2
      exact su_asg (snSE O V hz hf se h4) O.nd (by rw [O.N]; exact of_decide_eq_true h1) l1 l2 (noComp_swaps h3)
    · cases h
  | .ife q su, e, h => by
    simp only [chkSU] at h
    split at h
    · obtain ⟨h1, h2⟩ := tru2 h
      exact su_ife (snSQ O V hz hf q h1) (snSUs O V hz hf su h2)
    · cases h
theorem snSUs (O : Ok T c F ca k X) (V : XIds X.K ca ids T.xi.cls T.xi.flds) (hz : Zc cls d oe) (hf : ∃ vs, oe.data = .fields vs) : ∀ (s : SUs) {e : List Stmt}, chkSUs T c io s e = true → PSs (YY X a oe pn) e (tSUs (gX X ca) io a cls d ids s)
  | .nil, e, h => by
    cases e with
    | nil => exact sus_nil
    | cons _ _ => cases h
  | .cons s r, e, h => by
    cases e with
    | nil => cases h
    | cons x xs =>
      obtain ⟨h1, h2⟩ := tru2 (show (chkSU T c io s x && chkSUs T c io r xs) = true from h)
      exact sus_cons (snSU O V hz hf s h1) (snSUs O V hz hf r h2)
end
end
theorem sn_try (O : OkS T c F ca k X E) {b : IB} {io : Option Nat} {d0 : Nat} {ids : List Nat} {su : SUs} {s : Stmt} (h : chkTry T c b io d0 ids su s = true) : PS X s (tS (gX X ca) E F (.try_ b io d0 ids su)) := by
  unfold chkTry at h
  split at h
  · rename_i body x np n b0 suite p2 p3
    obtain ⟨h, h5⟩ := tru2 h
    obtain ⟨h, h4⟩ := tru2 h
    obtain ⟨h1, h2, h3⟩ := tru3 h
    obtain ⟨g1, g2, g3⟩ := tru3 h3
    have V := O.xi.sub h4
    obtain ⟨m, hm, _⟩ := clG_pe (a := 0) (oe := default) (pn := []) (p := np) O.toOk g1 g2 g3
    have nm : Names X x (.ref (ca d0)) := ⟨O.glob g1, nm1 g2, .inl hm⟩
    have hb : ∀ (W : WX) (pn : List (Addr × Obj)) (xe : Value → Shared → Prop), Takes (X.tr pn xe) W → PSs (X.tr pn xe) body (tIB (gX X ca) (WE W) F b) := fun W pn xe t => snIB (X := X.tr pn xe) (fun σ => passAt t σ) (O.toOk.tr pn xe) b h1
    cases io with
    | none =>
      cases n with
      | none => exact st_try_only V O.st O.fr nm m O.tk hb fun a oe cls d pn hz hf => snSUs O.toOk V hz hf su h5
      | some _ => cases h2
    | some j =>
      cases n with
      | none => cases h2
      | some n =>
        obtain ⟨e1, e2, e3⟩ := tru3 (show (decide (T.N[j]? = some n) && decide (c.sc.names.lookup n = some .local) && nmOk n) = true from h2)
        exact st_try_as V O.st O.fr O.nd (by rw [O.N]; exact of_decide_eq_true e1) (by show X.env.scope.names.lookup n = _; rw [O.sc]; exact of_decide_eq_true e2) nm m O.tk hb fun a oe cls d pn hz hf => snSUs O.toOk V hz hf su h5
  · cases h
theorem sn_rse (O : OkS T c F ca k X E) {q : Nat} {fs : List Str} {as : IEs} {s : Stmt} (h : chkS T c (.rse q fs as) s = true) : PS X s (tS (gX X ca) E F (.rse q fs as)) := by
  simp only [chkS] at h
  split at h
  · rename_i x p1 y ys p2 p3
    obtain ⟨h, h4⟩ := tru2 h
    obtain ⟨h1, h2, h3⟩ := tru3 h
    unfold xcG at h3
    split at h3
    · rename_i c' fs' hg
      obtain ⟨e1, e2⟩ := tru2 h3
      obtain rfl := of_decide_eq_true e1
      obtain rfl := of_decide_eq_true e2
      have W := (O.gl x _ hg).2 fs' rfl
      exact st_rse W O.calm (O.room.mono (by omega)) O.tk (O.glob h1) (nm1 h2) (snEs as O.toOk O.hx h4) (chkEs_all (F := F) h4).1
    · cases h3
  · cases h
mutual
theorem snS : ∀ (a : IS) {s : Stmt}, OkS T c F ca k X E → chkS T c a s = true → PS X s (tS (gX X ca) E F a)
  | .expr a, s, O, h => by
    simp only [chkS] at h
    split at h
    · obtain ⟨h1, h2⟩ := tru2 h
      exact st_expr (snE a O.toOk O.hx h2).pe (noComp_swaps h1)
    · cases h
  | .asg t a, s, O, h => by
    simp only [chkS] at h
    split at h
    · exact asg_ok O h
    · cases h
  | .par2 i j a b, s, O, h => by
    simp only [chkS] at h
    split at h
    · rename_i x px y py _ _ e f _ _ _
      simp only [Bool.and_eq_true, decide_eq_true_eq, Bool.not_eq_true'] at h
      obtain ⟨⟨⟨⟨⟨⟨⟨⟨⟨⟨⟨⟨⟨h1, h2⟩, h3⟩, h4⟩, h5⟩, h6⟩, h7⟩, h8⟩, h9⟩, h10⟩, h11⟩, h12⟩, h13⟩, h14⟩ := h
      have ha : PA X [e, f] (tEs (gX X ca) E F (.cons a (.cons b .nil))) := a_cons (snE a O.toOk O.hx h7).pe (a_cons (snE b O.toOk O.hx h8).pe a_nil h10) h9
      exact st_par2 O.calm O.nd (by rw [O.N]; exact h1) (by rw [O.N]; exact h2) h3 (by rw [O.sc]; exact h5) (by rw [O.sc]; exact h6) ha (par_ok h9 h10 O.fk O.sc h5 h6 h11 h4 h12 h13) rfl
    · cases h
  | .aug op i a, s, O, h => by
    simp only [chkS] at h
    split at h
    · obtain ⟨h, h4, h5⟩ := tru3 h
      obtain ⟨h1, h2, h3⟩ := tru3 h
      obtain rfl := of_decide_eq_true h1
      obtain ⟨l1, l2⟩ := O.loc h4
      exact st_aug (snE a O.toOk O.hx h5).pe ((Bool.or_eq_true_iff.mp h2).imp of_decide_eq_true of_decide_eq_true) O.nd (by rw [O.N]; exact of_decide_eq_true h3) l1 l2
    · cases h
  | .ret a, s, O, h => by
    simp only [chkS] at h
    split at h
    · split at h
      · exact st_retN
      · exact st_ret (snE _ O.toOk O.hx h).pe
      · cases h
    · cases h
  | .ife a p q, s, O, h => by
    simp only [chkS] at h
    split at h
    · obtain ⟨h, h3, h4⟩ := tru3 h
      obtain ⟨h1, h2⟩ := tru2 h
      exact st_if ((snE a O.toOk O.hx h1).pt h2) (snSs p O h3) (snSs q O h4)
    · cases h
  | .whl a p, s, O, h => by
    simp only [chkS] at h
    split at h
    · obtain ⟨h1, h2, h3⟩ := tru3 h
      exact st_whl O.hp ((snE a O.toOk O.hx h1).pt h2) (snSs p O h3)
    · cases h
  | .for_ t it p, s, O, h => by
    simp only [chkS] at h
    split at h
    · obtain ⟨h, h3, h4⟩ := tru3 h
      obtain ⟨h1, h2⟩ := tru2 h
      exact st_for O.hp O.calm (snI it t O.toOk O.hx h1) (snA t O.toOk O.hx h3) (snSs p O h4) (noSet_fold h2)
    · cases h
  | .forK t i p, s, O, h => by
    simp only [chkS] at h
    split at h
    · obtain ⟨h, h4, h5⟩ := tru3 h
      obtain ⟨h1, h2, h3⟩ := tru3 h
      exact st_forK O.hp O.calm (pe_var (by rw [O.N]; exact of_decide_eq_true h1) (O.vis h2) (nm1 h3) (nm2 h3)) (snA t O.toOk O.hx h4) (snSs p O h5)
    · cases h
  | .brk, s, O, h => by
    simp only [chkS] at h
    split at h
    · exact st_brk
    · cases h
  | .cnt, s, O, h => by
    simp only [chkS] at h
    split at h
    · exact st_cnt
    · cases h
  | .pas, s, O, h => by
    simp only [chkS] at h
    split at h
    · exact st_pass
    · cases h
  | .nev, s, O, h => by
    refine PS.imp ps_never fun D σ H q => ?_
    obtain ⟨μ, ρ, S, r, sl, p⟩ := q
    exact (show PostS _ E D .bad μ H from p)
  | .rse q fs as, s, O, h => sn_rse O h
  | .try_ b io d0 ids su, s, O, h => sn_try O (by simp only [chkS] at h; exact h)
theorem snSs : ∀ (a : ISs) {s : List Stmt}, OkS T c F ca k X E → chkSs T c a s = true → PSs X s (tSs (gX X ca) E F a)
  | .nil, s, O, h => by
    cases s with
    | nil => exact ss_nil
    | cons _ _ => cases h
  | .cons a as, s, O, h => by
    cases s with
    | nil => cases h
    | cons x xs =>
      obtain ⟨h1, h2⟩ := tru2 (show (chkS T c a x && chkSs T c as xs) = true from h)
      exact ss_cons (snS a O h1) (snSs as O h2)
end
end
end Iv

set_option maxRecDepth 10000
/-! Iv20: a program's defs, by levels. -/
namespace Iv
open PySem PySem.Spec PyProof.Rows L2
/-- the context of a def's body -/
abbrev bX (P : Program) (w : World) (K : PySem.W.Frag) (mg : Str → Option Value) (base : Heap) (N : List Str) (qual : Str) (scope : Scope) (f : Addr) (cd : Value) (A : Around) (outer : List PySem.Env) (s : Shared) (H : Hp) (E : XK) : Cx :=
  cxOf (L2.CX P w) P w K mg base N qual scope f cd A outer s H E
section
variable {P : Program} {w : World} {K : PySem.W.Frag} {mg : Str → Option Value} {base : Heap}
/-- a def by its body, where no repr runs around -/
theorem fnG_of {x qual : Str} {pm : Arguments} {body : List Stmt} {scope : Scope} {dvs : List V} {kws : List (Str × V)} {f : Addr} {fd : FuncData} {N ps : List Str} {k : Nat} {sp : Sp}
    (FD : FunD K x qual pm body scope dvs kws f fd) (FS : FnScope N ps scope) (hlen : ∀ xs Hs Qs Es, sp xs Hs Qs Es → xs.length = ps.length)
    (hrun : ∀ cv A ou st Hs xs Qs Es, Room k (A.deeper (envOfC qual scope st.heap.objs.size f cv)) → A.guards = some [] → sp xs Hs Qs Es →
      ∃ t, PSs (bX P w K mg base N qual scope f cv A ou st Hs Es) body t ∧ t { nx := fun _ Hz => Qs .non Hz, rt := Qs } (start N xs) Hs) :
    FnG P w K mg base (L2.CX P w) (k + 1) f fd ps sp := by
  obtain ⟨oc, od, dv, kv, dc, px, an, cv, ct, osl, hfd, lk, hcode, -, -⟩ := FD.ex
  cases hfd
  constructor
  · exact hlen
  intro A ou st Hs args us xs Qs Es room hgd e0 hbind rel hsp
  have inK : K.In st.heap := e0.mod.kin.keeps fun b o e => (e0.bs b o e).1
  have nolim := e0.mod.nolimit.keeps (h' := st.heap) fun b o e => (e0.bs b o e).1
  have kinds : ∀ p ∈ ps.zip us, scope.names.lookup p.1 = some .local ∨ (scope.names.lookup p.1 = some .cell ∧
      ((cellsFrom (st.heap.objs.size + 1) scope.names []).lookup p.1).isSome = true) := by
    rintro ⟨n, v⟩ hp
    refine (FS.par n (List.of_mem_zip hp).1).imp id fun q => ⟨q, ?_⟩
    exact PySem.W.cellsFrom_some _ _ _ (.inl q)
  refine codeAny_call_function room.depth (inK _ _ lk) rfl FS.co FS.gen rfl
    (PySem.W.codeRec_of inK hcode) (hbind _ _ _ _ ?_)
  refine wpAny_newFunctionEnv_cells FS.kind kinds fun nv hnv st1 ic => ?_
  cases hnv
  refine ⟨nolim.keeps ic.toInCall.keep, ?_⟩
  refine codeAny_func ?_
  obtain ⟨t, ht, hq⟩ := hrun cv A ou st Hs xs Qs Es (room.deeper _) hgd hsp
  have inv := inv_start (CX := L2.CX P w) (E := Es) FS room.hd e0 (hlen _ _ _ _ hsp) rel ic
  refine wpAny_mono (ht.run [] st1 (start N xs) Hs _ inv hq) (fun fl st2 hs => ?_) fun _ _ z => z
  cases fl with
  | next =>
    obtain ⟨_, Hz, J, z⟩ := hs
    exact ⟨V.non, Hz, J.os, J.bare, J.base, J.hok, rfl, z⟩
  | ret u =>
    obtain ⟨v, _, Hz, J, rv, z⟩ := hs
    exact ⟨v, Hz, J.os, J.bare, J.base, J.hok, rv, z⟩
  | brk =>
    obtain ⟨_, _, _, z⟩ := hs
    exact z.elim
  | cont =>
    obtain ⟨_, _, _, z⟩ := hs
    exact z.elim
theorem slots_start {μ : List Addr} {H : Hp} {N : List Str} {ds : List D} {vs : List V} {np ns : Nat} (hr : Reps K μ H ds vs) (hn : ns = N.length) (hp : ds.length = np) : Slots K μ H (start N vs) (ds.map some ++ List.replicate (ns - np) none) := by
  have hl := hr.length
  refine ⟨?_, fun i d h => ?_⟩
  · unfold L2.start
    simp only [List.length_append, List.length_map, List.length_replicate]
    omega
  · by_cases hi : i < ds.length
    · rw [List.getElem?_append_left (by simpa using hi), List.getElem?_map] at h
      obtain ⟨d', e1, e2⟩ := Option.map_eq_some_iff.mp h
      cases e2
      obtain ⟨v, h1, h2⟩ := hr.get e1
      refine ⟨v, ?_, h2⟩
      unfold L2.start
      rw [List.getElem?_append_left (by rw [List.length_map, ← hl]; exact hi), List.getElem?_map, h1]
      rfl
    · rw [List.getElem?_append_right (by simpa using hi), List.getElem?_replicate] at h
      split at h <;> cases h
/-- a def's end -/
theorem end_ok {g : G} {E : XK} {o : OutS} {μ : List Addr} {H : Hp} {S : Store} {Q : VK} (r : Rel g μ S H) (p : Post g E (gcO S (bodyO o)) μ H fun d _ μ' H' => ∀ v, Rep g.K μ' H' d v → Q v H') :
    PostS g E { nx := fun _ H' => Q .non H', rt := Q } o μ H := by
  have key : ∀ (d : D) (S' : Store) (μ' : List Addr) (H' : Hp) (v : V), Post g E (gc S d S') μ H (fun d _ μ' H' => ∀ v, Rep g.K μ' H' d v → Q v H') → Ext g.K μ μ' H H' → Rel g μ' S' H' → Rep g.K μ' H' d v → Q v H' := fun d S' μ' H' v p e r' hv => by
    obtain ⟨d2, S2, μ2, eg, e2, r2, hv2⟩ := gc_ok (Q := fun d2 S2 μ2 => Ext g.K μ μ2 H H' ∧ Rel g μ2 S2 H' ∧ Rep g.K μ2 H' d2 v) r r' e hv fun d2 S2 μ2 _ e2 r2 hv2 => ⟨e2, r2, hv2⟩
    rw [eg] at p
    exact p μ2 H' e2 r2 v hv2
  cases o with
  | nx ρ S' => exact fun μ' H' σ' e r' s' => key .non S' μ' H' .non p e r' rfl
  | rt d S' => exact fun μ' H' v e r' hv => key d S' μ' H' v p e r' hv
  | bk ρ S' => exact p.elim
  | ct ρ S' => exact p.elim
  | ex c fs S' => exact p
  | bad => exact p.elim
/-- one def of the text -/
structure Df where
  a : Addr
  fd : FuncData
  x : Str
  qual : Str
  pm : Arguments
  body : List Stmt
  scope : Scope
  ps : List Str
  N : List Str
  kws : List (Str × V)
/-- a class of errors that is raised -/
structure IOk (K : PySem.W.Frag) (mg : Str → Option Value) (ca : Nat → Addr) (c : Nat) (fs : List Str) : Prop where
  ex : ∃ (x qual : Str) (pm : Arguments) (body : List Stmt) (scope : Scope) (fI : Addr) (fd : FuncData) (N : List Str) (b : Str) (B : Addr), FunD K x qual pm body scope [] [] fI fd ∧ FnScope N N scope ∧ mg b = some (.ref B) ∧ BCls K B ∧ chkInit fs N scope b body = true ∧ OexC K (ca c) ∧
    PySem.W.findIn K (.ref (ca c)) "__init__" = some (some (.ref fI)) ∧ PySem.W.typeIn K (.ref fI) = some (.type "function") ∧ Binds K fd N [] ∧ (∀ f ∈ fs, PySem.W.findIn K (.ref (ca c)) f = some none) ∧ fs.length ≤ 800
/-- a keyword-only default -/
structure KwOk (K : PySem.W.Frag) (fd : FuncData) (ps : List Str) (kw : Str) (d0 : D) : Prop where
  ex : ∃ (v0 : V) (u0 : Value), Binds K fd (ps ++ [kw]) [u0] ∧ RelV v0 u0 ∧ (∀ μ H, Rep K μ H d0 v0) ∧ KBn K fd (ps ++ [kw]) ps.length [kw] (fun us ws => us ++ ws) (fun vs zs => vs ++ zs)
/-- what a program's text says of its defs -/
structure Link (K : PySem.W.Frag) (mg : Str → Option Value) (ca : Nat → Addr) (Γ : Nat → Option FDef) (gl : Str → Option Gv) (xi : Xi) (df : Nat → Df) : Prop where
  fn : ∀ f d, Γ f = some d → FunD K (df f).x (df f).qual (df f).pm (df f).body (df f).scope [] (df f).kws (df f).a (df f).fd ∧ FnScope (df f).N (df f).ps (df f).scope ∧
    chkSs ⟨(df f).N, gl, xi⟩ ⟨(df f).scope, none⟩ d.body (df f).body = true ∧ d.np = (df f).ps.length ∧ d.ns = (df f).N.length
  bd : ∀ f d, Γ f = some d → (df f).kws = [] → Binds K (df f).fd (df f).ps []
  glF : ∀ x f ps, gl x = some (.fn f ps) → mg x = some (.ref (df f).a) ∧ ps = (df f).ps ∧ (Γ f).isSome = true ∧ Binds K (df f).fd (df f).ps []
  glK : ∀ x f ps kw d0, gl x = some (.fnk f ps kw d0) → mg x = some (.ref (df f).a) ∧ ps ++ [kw] = (df f).ps ∧ (Γ f).isSome = true ∧ KwOk K (df f).fd ps kw d0
  glC : ∀ x d, gl x = some (.con d) → ∃ v u, mg x = some u ∧ RelV v u ∧ ∀ μ H, Rep K μ H d v
  bl : ∀ x ∈ bltNames, mg x = none
  glX : ∀ x c ri, gl x = some (.xc c ri) → mg x = some (.ref (ca c)) ∧ ∀ fs, ri = some fs → IOk K mg ca c fs
  xi : XIds K ca xi.ids xi.cls xi.flds
theorem fns_ok {ca : Nat → Addr} {Γ : Nat → Option FDef} {gl : Str → Option Gv} {xi : Xi} {df : Nat → Df} (L : Link K mg ca Γ gl xi df) : ∀ (k f : Nat) (d : FDef), Γ f = some d → FnG P w K mg base (L2.CX P w) (k + 2) (df f).a (df f).fd (df f).ps (spOf ⟨P, w, K, ca⟩ (callN Γ k f))
  | 0, f, d, h => ⟨fun vs H Q E q => by
      obtain ⟨_, _, _, _, _, p⟩ := q
      exact p.elim, fun A ou s H args us vs Q E _ _ _ _ _ q => by
      obtain ⟨_, _, _, _, _, p⟩ := q
      exact p.elim⟩
  | k + 1, f, d, h => by
    obtain ⟨FD, FS, hc, hp, hn⟩ := L.fn f d h
    have un : ∀ ds S, callN Γ (k + 1) f ds S = if ds.length = d.np then gcO S (bodyO (evSs (callN Γ k) d.body (ds.map some ++ List.replicate (d.ns - d.np) none) S)) else .bad := fun ds S => by
      show (match Γ f with | some d => if ds.length = d.np then gcO S (bodyO (evSs (callN Γ k) d.body (ds.map some ++ List.replicate (d.ns - d.np) none) S)) else .bad | none => .bad) = _
      rw [h]
    refine fnG_of FD FS (fun vs H Q E q => ?_) fun cv A ou s H vs Q E room hg q => ?_
    · obtain ⟨μ, S, ds, r, hr, p⟩ := q
      rw [un] at p
      by_cases c : ds.length = d.np
      · rw [← hr.length, c, hp]
      · rw [if_neg c] at p
        exact p.elim
    · obtain ⟨μ, S, ds, r, hr, p⟩ := q
      rw [un] at p
      by_cases c : ds.length = d.np
      · rw [if_pos c] at p
        have tk : Takes (bX P w K mg base (df f).N (df f).qual (df f).scope (df f).a cv A ou s H E) (fun cls d _ H => E cls d H) := takes_of rfl rfl rfl rfl
        have O : OkS ⟨(df f).N, gl, xi⟩ ⟨(df f).scope, none⟩ (callN Γ k) ca k (bX P w K mg base (df f).N (df f).qual (df f).scope (df f).a cv A ou s H E) E := by
          refine ⟨⟨rfl, FS.nd, rfl, fun _ _ => rfl, rfl, room, hg, L.bl, fun x v hx => ?_, L.xi⟩, passes_call tk fun _ _ _ _ z => z, passes_of rfl, FS.kind, tk, rfl, rfl⟩
          cases v with
          | con d => exact L.glC x d hx
          | fn f' ps' =>
            obtain ⟨g1, g2, g3, hb'⟩ := L.glF x f' ps' hx
            obtain ⟨d', hd'⟩ := Option.isSome_iff_exists.mp g3
            obtain ⟨FD', _⟩ := L.fn f' d' hd'
            subst g2
            exact ⟨⟨(df f').a, (df f').fd, g1, FD'.kp, hb', fns_ok L k f' d' hd'⟩⟩
          | fnk f' ps' kw d0 =>
            obtain ⟨g1, g2, g3, hb'⟩ := L.glK x f' ps' kw d0 hx
            obtain ⟨d', hd'⟩ := Option.isSome_iff_exists.mp g3
            obtain ⟨FD', _⟩ := L.fn f' d' hd'
            obtain ⟨v0, u0, k1, k2, k3, k4⟩ := hb'.ex
            have G := fns_ok L k f' d' hd'
            rw [← g2] at G
            exact ⟨⟨(df f').a, (df f').fd, v0, u0, g1, FD'.kp, k1, k2, k3, k4, G⟩⟩
          | xc c ri =>
            obtain ⟨m, q⟩ := L.glX x c ri hx
            refine ⟨m, fun fs e => ?_⟩
            obtain ⟨_, _, _, _, _, fI, fd, N, b, B, h1, h2, h3, h4, h5, h6, h7, h8, h9, h10, h11⟩ := (q fs e).ex
            exact ⟨⟨fI, fd, N, m, h6, h7, h8, init_ok h1 h2 h3 h4 h5, h9, h10, h11⟩⟩
        exact ⟨_, snSs d.body O hc, μ, _, S, r, slots_start hr hn c, end_ok r p⟩
      · rw [if_neg c] at p
        exact p.elim
end
end Iv

set_option maxRecDepth 10000
/-! Iv21: a law row's defs, the law's call. -/
namespace Iv
open PySem PySem.Spec PyProof.Rows L2
theorem bind_pos {x qual : Str} {as : List Arg} {body : List Stmt} {scope : Scope} {kV doc pm : Value} {an : Option Addr} {cdv ct : Value} {us : List Value} (nd : (as.map (·.arg)).Nodup) (hl : us.length = as.length) :
  bindArgs (PySem.W.fnOf x qual ⟨[], as, none, [], [], none, []⟩ body scope .none kV doc pm an cdv ct) ⟨us, []⟩ = pure ((as.map (·.arg)).zip us) := by
  have hl' : us.length = (as.map (·.arg)).length := by rw [List.length_map]; exact hl
  have hm : ((as.map (·.arg)).filter fun n => (((as.map (·.arg)).zip us).lookup n).isNone) = [] := by
    rw [List.filter_eq_nil_iff]
    intro n hn
    have := lookup_zip hl' hn
    cases h : ((as.map (·.arg)).zip us).lookup n with
    | none => rw [h] at this; cases this
    | some _ => simp
  have hz := filt_zip nd hl'
  unfold bindArgs PySem.W.fnOf
  simp only [List.map_nil, List.nil_append, List.forIn_nil, pure_bind]
  show (seqItems? .none >>= fun r => _) = _
  have e : seqItems? .none = pure none := rfl
  rw [e, pure_bind]
  simp only [Option.getD_none, List.drop_nil, List.length_nil, Nat.sub_zero, List.take_length, hm, List.append_nil, hl']
  rw [List.filterMap_map] at hz
  simp
  rw [hz]

/-! ### the defs of a row -/
/-- a def: its number, its name, its statement in the row, its parameters, its names, what it does, the last parameter's default if it is keyword-only -/
structure De where
  id : Nat
  nm : Str
  st : Stmt
  ps : List Str
  N : List Str
  ir : FDef
  kd : Option D
def dvOf : D → He.Dv
  | .bl b => .bl b
  | .int i => .int i
  | .str x => .str x
  | _ => .non
def dvOk : D → Bool
  | .bl _ | .int _ | .str _ | .non => true
  | _ => false
def De.kwd (e : De) : List (Str × He.Dv) := match e.kd with
  | none => []
  | some d => [((e.ps.getLast?).getD "", dvOf d)]
def De.dd (e : De) : He.DefD := ⟨(e.nm, none), e.nm, e.nm, defArgs e.st, defBody e.st, defScope e.st, [], e.kwd⟩
def ΓOf (l : List De) (f : Nat) : Option FDef := (l.find? fun e => decide (e.id = f)).map (·.ir)
def argsOk (a : Arguments) (ps : List Str) : Bool := match a with
  | ⟨[], as, none, [], [], none, []⟩ => decide (as.map (·.arg) = ps)
  | _ => false
def argsK (a : Arguments) (ps : List Str) : Option D → Bool
  | none => argsOk a ps
  | some d => match a with
    | ⟨[], as, none, [ka], [_], none, []⟩ => decide (as.map (·.arg) ++ [ka.arg] = ps) && dvOk d
    | _ => false
def scOk (N ps : List Str) (sc : Scope) : Bool := (match sc.kind with | .function => true | _ => false) && !sc.isCoroutine && !sc.isGenerator && decide N.Nodup && decide (N.take ps.length = ps) &&
  (ps.all fun x => decide (sc.names.lookup x = some .local) || decide (sc.names.lookup x = some .cell)) && sc.names.all fun y => decide (y.2 ≠ .free)
/-- a class of errors: its number, its name, its __init__, its fields if it is raised, the __init__'s names -/
structure Xe where
  c : Nat
  x : Str
  st : Stmt
  fs : Option (List Str)
  N : List Str
/-- a class's __init__ -/
def initSt : Stmt → Stmt
  | .ClassDef _ _ _ body _ _ _ _ _ _ _ => (body.find? fun s => match s with
    | .FunctionDef n _ _ _ _ _ _ _ _ _ => decide (n = "__init__")
    | _ => false).getD (.Pass default)
  | s => s
def Xe.dd (e : Xe) : He.DefD := ⟨(e.x, some "__init__"), "__init__", e.x ++ ".__init__", defArgs e.st, defBody e.st, defScope e.st, [], []⟩
def glOf (l : List De) (cs : List (Str × D)) (xs : List Xe) (x : Str) : Option Gv := match lookA x cs with
  | some d => some (.con d)
  | none => match xs.find? fun e => decide (e.x = x) with
    | some e => some (.xc e.c e.fs)
    | none => (l.find? fun e => decide (e.nm = x)).map fun e => match e.kd with
      | none => .fn e.id e.ps
      | some d => .fnk e.id e.ps.dropLast ((e.ps.getLast?).getD "") d
def xiOf (xs : List Xe) : Xi := ⟨(xs.filter fun e => e.fs.isSome).map (·.c), xs.map (·.c), xs.flatMap fun e => e.fs.getD []⟩
def caOf (K : PySem.W.Frag) (xs : List Xe) (c : Nat) : Addr := match xs.find? fun e => decide (e.c = c) with
  | some e => He.ga K e.x
  | none => 0
def uniqX (xs : List Xe) : Bool := (xs.all fun e => decide ((xs.find? fun e' => decide (e'.c = e.c)).map (·.x) = some e.x)) && (xs.isEmpty || xs.any fun e => decide (e.x = "CrossError"))
def oexB (K : PySem.W.Frag) (C : Addr) : Bool := (match K.lookup C with
  | some ⟨.type "type", _, .cls cd, sl⟩ => (match cd.mro, sl.toList with
    | .ref C' :: bm, [_, _, _, _, some (.builtin n), _] => decide (C' = C) && decide (n = "ValueError.__new__") && !cd.hasDel && cd.hasDict && PySem.HandSPX.refsVE bm
    | _, _ => false)
  | _ => false) && decide (PySem.W.findIn K (.ref C) "__setattr__" = some (some (.builtin "object.__setattr__"))) && decide (PySem.W.subIn K (.ref C) (.type "BaseException") = some true) && decide (PySem.W.typeIn K (.ref C) = some (.type "type")) && PySem.W.keepIn K (.ref C)
theorem oexB_ok {K : PySem.W.Frag} {C : Addr} (h : oexB K C = true) : OexC K C := by
  unfold oexB at h
  simp only [Bool.and_eq_true, decide_eq_true_eq] at h
  obtain ⟨⟨⟨⟨h1, h2⟩, h3⟩, h4⟩, h5⟩ := h
  refine ⟨?_, h2, h3, h4, h5⟩
  split at h1
  · rename_i dd cd sl ho
    split at h1
    · rename_i C' bm k0 k1 k2 k3 n k5 hm hs
      simp only [Bool.and_eq_true, decide_eq_true_eq, Bool.not_eq_true'] at h1
      obtain ⟨⟨⟨⟨rfl, rfl⟩, hdel⟩, hd⟩, hr⟩ := h1
      obtain ⟨nm, bs, mro, ns, qn, hdct, sn, sub, ab, col, del⟩ := cd
      dsimp only at hm hdel hd
      subst hm hdel hd
      have hsl : sl = #[k0, k1, k2, k3, some (.builtin "ValueError.__new__"), k5] := by
        obtain ⟨l⟩ := sl
        simp only at hs
        rw [hs]
      subst hsl
      exact ⟨nm, qn, ns, bs, bm, sn, sub, ab, col, dd, k0, k1, k2, k3, k5, ho, hr⟩
    · cases h1
  · cases h1
def bclsB (K : PySem.W.Frag) (B : Addr) : Bool := decide (PySem.W.specialIn K (.ref B) "__getattribute__" = some (some (.builtin "type.__getattribute__"))) && PySem.W.readsIn K B (.type "type") && (match PySem.W.findCls K (.ref B) (.type "type") "__init__" with
  | some (.val (.builtin n)) => decide (n = "ValueError.__init__")
  | _ => false)
theorem bclsB_ok {K : PySem.W.Frag} {B : Addr} (h : bclsB K B = true) : BCls K B := by
  unfold bclsB at h
  simp only [Bool.and_eq_true, decide_eq_true_eq] at h
  obtain ⟨⟨h1, h2⟩, h3⟩ := h
  refine ⟨h1, h2, ?_⟩
  split at h3
  · rename_i n e
    rw [e, of_decide_eq_true h3]
  · cases h3
def excB (K : PySem.W.Frag) (D : Addr) : Bool := decide (PySem.W.findIn K (.ref D) "__getattribute__" = some (some (.builtin "BaseException.__getattribute__"))) && decide (PySem.W.findIn K (.ref D) "__getattr__" = some none) && decide (PySem.W.subIn K (.ref D) (.type "BaseException") = some true) && PySem.W.hasDictIn K D &&
  decide (PySem.W.findIn K (.ref D) "__class__" = some (some (.builtin "object.__class__"))) && decide (PySem.W.specialIn K (.builtin "object.__class__") "__get__" = some (some (.builtin "getset_descriptor.__get__"))) && decide (PySem.W.takesIn K (.builtin "object.__class__") = some true) && decide (PySem.W.mroIn K D (.type "object") = some true)
theorem excB_ok {K : PySem.W.Frag} {D : Addr} (h : excB K D = true) : ExcC K D := by
  unfold excB at h
  simp only [Bool.and_eq_true, decide_eq_true_eq] at h
  obtain ⟨⟨⟨⟨⟨⟨⟨h1, h2⟩, h3⟩, h4⟩, h5⟩, h6⟩, h7⟩, h8⟩ := h
  exact ⟨h1, h2, h3, h4, h5, h6, h7, h8⟩
/-- what the written part says of the classes -/
def xeB (K : PySem.W.Frag) (xs : List Xe) : Bool := (xs.isEmpty || bclsB K (He.ga K "CrossError")) && xs.all fun e => match e.fs with
  | none => true
  | some fs => oexB K (He.ga K e.x) && decide (PySem.W.findIn K (.ref (He.ga K e.x)) "__init__" = some (some (.ref (He.ma K (He.ga K e.x) "__init__")))) && decide (PySem.W.typeIn K (.ref (He.ma K (He.ga K e.x) "__init__")) = some (.type "function")) && decide (fs.length ≤ 800) && xfB K (He.ga K e.x) && excB K (He.ga K e.x) &&
    ((xiOf xs).flds.all fun f => decide (PySem.W.findIn K (.ref (He.ga K e.x)) f = some none)) && xs.all fun e' => decide (PySem.W.kitOne K (.ref (He.ga K e.x)) (.ref (He.ga K e'.x)) = some (subB e.c e'.c)) && decide (PySem.W.exmOne K (.ref (He.ga K e.x)) (.ref (He.ga K e'.x)) = some (subB e.c e'.c))
def chkXe (e : Xe) : Bool := match e.fs with
  | none => true
  | some fs => argsOk (defArgs e.st) e.N && scOk e.N e.N (defScope e.st) && chkInit fs e.N (defScope e.st) "CrossError" (defBody e.st)
def faC (p : Str × D) : He.Fa := match p.2 with
  | .int i => .int p.1 i
  | .str z => .str p.1 z
  | _ => .free p.1
def faOf (l : List De) (cs : List (Str × D)) (xs : List Xe) : List He.Fa := (l.map (fun e => .glo e.nm) ++ (cs.map faC ++ bltNames.map fun x => .free x)) ++ xs.map fun e => .glo e.x
def fnOf (l : List De) (xs : List Xe) : List He.DefD := l.map De.dd ++ (xs.filter fun e => e.fs.isSome).map Xe.dd
def chkDe (gl : Str → Option Gv) (xi : Xi) (e : De) : Bool := argsK (defArgs e.st) e.ps e.kd && scOk e.N e.ps (defScope e.st) && decide (e.ir.np = e.ps.length) && decide (e.ir.ns = e.N.length) && chkSs ⟨e.N, gl, xi⟩ ⟨defScope e.st, none⟩ e.ir.body (defBody e.st)
def csOk (p : Str × D) : Bool := match p.2 with
  | .int _ | .str _ => true
  | _ => false
def chkAll (l : List De) (cs : List (Str × D)) (xs : List Xe) : Bool := cs.all csOk && l.all (chkDe (glOf l cs xs) (xiOf xs)) && xs.all chkXe && uniqX xs
theorem scOk_ok {N ps : List Str} {sc : Scope} (h : scOk N ps sc = true) : FnScope N ps sc := by
  unfold scOk at h
  simp only [Bool.and_eq_true, List.all_eq_true, decide_eq_true_eq, Bool.not_eq_true', Bool.or_eq_true] at h
  obtain ⟨⟨⟨⟨⟨⟨h1, h2⟩, h3⟩, h4⟩, h5⟩, h6⟩, h7⟩ := h
  refine ⟨?_, h2, h3, h4, h5, h6, h7⟩
  split at h1
  · assumption
  · cases h1
theorem argsOk_ok {a : Arguments} {ps : List Str} (h : argsOk a ps = true) : ∃ as, a = ⟨[], as, none, [], [], none, []⟩ ∧ as.map (·.arg) = ps := by
  unfold argsOk at h
  split at h
  · exact ⟨_, rfl, of_decide_eq_true h⟩
  · cases h
section
variable {K : PySem.W.Frag} {h : Heap} {mg : Str → Option Value} {l : List De} {cs : List (Str × D)}
theorem fact_mem {fa : List He.Fa} {fn : List He.DefD} (c : He.SaysD fa fn K) {f : He.Fa} (m : f ∈ fa) : f.ok K = true := by
  obtain ⟨i, hi, e⟩ := List.mem_iff_getElem.mp m
  exact c.fact i (by rw [← e]; exact List.getElem?_eq_getElem hi)
theorem def_mem {fa : List He.Fa} {fn : List He.DefD} (c : He.SaysD fa fn K) {d : He.DefD} (m : d ∈ fn) : ∃ fd, FunD K d.name d.qual d.params d.body d.scope (d.dvs K) (d.kws K) (He.fAd K d.at_) fd := by
  obtain ⟨i, hi, e⟩ := List.mem_iff_getElem.mp m
  exact c.def_ i (by rw [← e]; exact List.getElem?_eq_getElem hi)
def fdAt (K : PySem.W.Frag) (a : Addr) (e : De) : FuncData := match K.lookup a with
  | some ⟨_, _, .func fd, _⟩ => fd
  | _ => PySem.W.fnOf e.nm e.nm (defArgs e.st) (defBody e.st) (defScope e.st) .none .none .none .none none .none .none
def deDf (K : PySem.W.Frag) (e : De) : Df := ⟨He.ga K e.nm, fdAt K (He.ga K e.nm) e, e.nm, e.nm, defArgs e.st, defBody e.st, defScope e.st, e.ps, e.N, e.dd.kws K⟩
def dfOf (K : PySem.W.Frag) (l : List De) (f : Nat) : Df := match l.find? fun e => decide (e.id = f) with
  | some e => deDf K e
  | none => deDf K ⟨0, "", .Pass default, [], [], ⟨0, 0, .nil⟩, none⟩
theorem lookA_mem {κ β : Type} [DecidableEq κ] {k : κ} {v : β} : ∀ {l : List (κ × β)}, lookA k l = some v → (k, v) ∈ l
  | [], h => by cases h
  | (a, b) :: r, h => by
    unfold lookA at h
    split at h
    · cases h
      rename_i e
      rw [e]
      exact List.mem_cons_self
    · exact List.mem_cons_of_mem _ (lookA_mem h)
/-- names stand for one def each -/
def uniq (l : List De) : Bool := l.all fun e => match l.find? fun e' => decide (e'.id = e.id) with
  | some e' => decide (e'.nm = e.nm) && decide (e'.ps = e.ps) && decide (e'.kd = e.kd)
  | none => false
theorem ca_of {xs : List Xe} (hu : uniqX xs = true) {e : Xe} (he : e ∈ xs) : caOf K xs e.c = He.ga K e.x := by
  have q := of_decide_eq_true (List.all_eq_true.mp (tru2 hu).1 e he)
  unfold caOf
  obtain ⟨e', h1, h2⟩ := Option.map_eq_some_iff.mp q
  rw [h1]
  show He.ga K e'.x = _
  rw [h2]
theorem init_of {xs : List Xe} (c : He.SaysD (faOf l cs xs) (fnOf l xs) K) {e : Xe} (he : e ∈ xs) {fs : List Str} (hf : e.fs = some fs) : ∃ fd, FunD K "__init__" (e.x ++ ".__init__") (defArgs e.st) (defBody e.st) (defScope e.st) [] [] (He.ma K (He.ga K e.x) "__init__") fd :=
  def_mem c (d := e.dd) (List.mem_append_right _ (List.mem_map.mpr ⟨e, List.mem_filter.mpr ⟨he, by rw [hf]; rfl⟩, rfl⟩))
theorem xe_glo {xs : List Xe} (X : K.In h) (G : h.Ns mainGlobals mg) (c : He.SaysD (faOf l cs xs) (fnOf l xs) K) {e : Xe} (he : e ∈ xs) : mg e.x = some (.ref (He.ga K e.x)) :=
  He.glo_ok X G (fact_mem c (f := .glo e.x) (List.mem_append_right _ (List.mem_map.mpr ⟨e, he, rfl⟩)))
structure XeOk (K : PySem.W.Frag) (xs : List Xe) (e : Xe) (fs : List Str) : Prop where
  o : OexC K (He.ga K e.x)
  i : PySem.W.findIn K (.ref (He.ga K e.x)) "__init__" = some (some (.ref (He.ma K (He.ga K e.x) "__init__")))
  t : PySem.W.typeIn K (.ref (He.ma K (He.ga K e.x) "__init__")) = some (.type "function")
  l : fs.length ≤ 800
  xf : XfC K (He.ga K e.x)
  ex : ExcC K (He.ga K e.x)
  no : ∀ f ∈ (xiOf xs).flds, PySem.W.findIn K (.ref (He.ga K e.x)) f = some none
  kit : ∀ e' ∈ xs, PySem.W.kitOne K (.ref (He.ga K e.x)) (.ref (He.ga K e'.x)) = some (subB e.c e'.c)
  exm : ∀ e' ∈ xs, PySem.W.exmOne K (.ref (He.ga K e.x)) (.ref (He.ga K e'.x)) = some (subB e.c e'.c)
theorem xe_ok {xs : List Xe} (hx : xeB K xs = true) {e : Xe} (he : e ∈ xs) {fs : List Str} (hf : e.fs = some fs) : XeOk K xs e fs := by
  have q := List.all_eq_true.mp (tru2 hx).2 e he
  rw [hf] at q
  simp only [Bool.and_eq_true, decide_eq_true_eq, List.all_eq_true] at q
  obtain ⟨⟨⟨⟨⟨⟨⟨h1, h2⟩, h3⟩, h4⟩, h5⟩, h6⟩, h7⟩, h8⟩ := q
  exact ⟨oexB_ok h1, h2, h3, h4, xfB_ok h5, excB_ok h6, h7, fun e' he' => (h8 e' he').1, fun e' he' => (h8 e' he').2⟩
theorem argsK_ok {a : Arguments} {ps : List Str} {d : D} (h : argsK a ps (some d) = true) : ∃ as ka kd, a = ⟨[], as, none, [ka], [kd], none, []⟩ ∧ as.map (·.arg) ++ [ka.arg] = ps ∧ dvOk d = true := by
  unfold argsK at h
  dsimp only at h
  split at h
  · obtain ⟨h1, h2⟩ := tru2 h
    exact ⟨_, _, _, rfl, of_decide_eq_true h1, h2⟩
  · cases h
theorem dv_rep {K : PySem.W.Frag} {d : D} (h : dvOk d = true) (μ : List Addr) (H : Hp) : Rep K μ H d ((dvOf d).v K) := by
  cases d <;> first | rfl | cases h
/-- a def as the heap has it -/
structure DeOk (K : PySem.W.Frag) (gl : Str → Option Gv) (xi : Xi) (e : De) : Prop where
  fd : FunD K e.nm e.nm (defArgs e.st) (defBody e.st) (defScope e.st) [] (e.dd.kws K) (He.ga K e.nm) (fdAt K (He.ga K e.nm) e)
  sc : FnScope e.N e.ps (defScope e.st)
  ck : chkSs ⟨e.N, gl, xi⟩ ⟨defScope e.st, none⟩ e.ir.body (defBody e.st) = true
  np : e.ir.np = e.ps.length
  ns : e.ir.ns = e.N.length
  bd : e.kd = none → Binds K (fdAt K (He.ga K e.nm) e) e.ps []
  kb : ∀ d, e.kd = some d → e.ps.dropLast ++ [(e.ps.getLast?).getD ""] = e.ps ∧ KwOk K (fdAt K (He.ga K e.nm) e) e.ps.dropLast ((e.ps.getLast?).getD "") d
theorem de_ok {xs : List Xe} (c : He.SaysD (faOf l cs xs) (fnOf l xs) K) {gl : Str → Option Gv} {xi : Xi} {e : De} (em : e ∈ l) (q : chkDe gl xi e = true) : DeOk K gl xi e := by
  unfold chkDe at q
  simp only [Bool.and_eq_true, decide_eq_true_eq] at q
  obtain ⟨⟨⟨⟨q1, q2⟩, q3⟩, q4⟩, q5⟩ := q
  obtain ⟨fd, F⟩ := def_mem c (d := De.dd e) (List.mem_append_left _ (List.mem_map.mpr ⟨e, em, rfl⟩))
  have F : FunD K e.nm e.nm (defArgs e.st) (defBody e.st) (defScope e.st) [] (e.dd.kws K) (He.ga K e.nm) fd := F
  have efd : fdAt K (He.ga K e.nm) e = fd := by
    obtain ⟨oc, od, dV, kV, doc, pm, an, cdv, ct, osl, _, lk, _⟩ := F.ex
    unfold fdAt
    rw [lk]
  have S := scOk_ok q2
  have nd : e.ps.Nodup := by
    rw [← S.pre]
    exact S.nd.sublist (List.take_sublist _ _)
  rw [← efd] at F
  refine ⟨F, S, q5, q3, q4, fun hk => ?_, fun d hk => ?_⟩
  · rw [hk] at q1
    obtain ⟨as, ea, eps⟩ := argsOk_ok q1
    have ek : e.dd.kws K = [] := by
      show e.kwd.map _ = []
      unfold De.kwd
      rw [hk]
      rfl
    rw [ea, ek] at F
    refine F.bindsN fun kV doc pm an cdv ct us hl => ?_
    rw [← eps]
    exact bind_pos (by rw [eps]; exact nd) (by rw [hl, ← eps, List.length_map])
  · rw [hk] at q1
    obtain ⟨as, ka, kd, ea, eps, hd⟩ := argsK_ok q1
    have e1 : e.ps.dropLast = as.map (·.arg) := by rw [← eps, List.dropLast_concat]
    have e2 : (e.ps.getLast?).getD "" = ka.arg := by rw [← eps, List.getLast?_concat]; rfl
    have ek : e.dd.kws K = [(ka.arg, (dvOf d).v K)] := by
      show e.kwd.map _ = _
      unfold De.kwd
      rw [hk]
      show [((e.ps.getLast?).getD "", (dvOf d).v K)] = _
      rw [e2]
    rw [ea, ek] at F
    rw [e1, e2]
    refine ⟨eps, ?_⟩
    obtain ⟨u0, r, hb, hkb⟩ := kw_binds F (by rw [eps]; exact nd)
    exact ⟨_, u0, hb, r, dv_rep hd, hkb⟩
theorem link_of {xs : List Xe} (X : K.In h) (G : h.Ns mainGlobals mg) (c : He.SaysD (faOf l cs xs) (fnOf l xs) K) (hx0 : xeB K xs = true) (hu : uniq l = true) (hc : chkAll l cs xs = true) : Link K mg (caOf K xs) (ΓOf l) (glOf l cs xs) (xiOf xs) (dfOf K l) := by
  obtain ⟨hc, hux⟩ := tru2 hc
  obtain ⟨hc, hxe⟩ := tru2 hc
  obtain ⟨hcs, hde⟩ := tru2 hc
  have hde := List.all_eq_true.mp hde
  have hcs := List.all_eq_true.mp hcs
  have hxe := List.all_eq_true.mp hxe
  have key : ∀ f d, ΓOf l f = some d → ∃ e ∈ l, e.ir = d ∧ dfOf K l f = deDf K e := fun f d hf => by
    obtain ⟨e, he, rfl⟩ := Option.map_eq_some_iff.mp (show (l.find? fun e => decide (e.id = f)).map (·.ir) = some d from hf)
    exact ⟨e, List.mem_of_find?_eq_some he, rfl, by unfold dfOf; rw [he]⟩
  have key2 : ∀ x e, (l.find? fun e => decide (e.nm = x)) = some e → ∃ e' ∈ l, dfOf K l e.id = deDf K e' ∧ mg x = some (.ref (He.ga K e'.nm)) ∧ e'.ps = e.ps ∧ e'.kd = e.kd ∧ (ΓOf l e.id).isSome = true := fun x e he => by
    have em := List.mem_of_find?_eq_some he
    have en : e.nm = x := by
      have z := List.find?_some he
      exact of_decide_eq_true z
    have u := List.all_eq_true.mp hu e em
    split at u
    · rename_i e' he'
      obtain ⟨u1, u2, u3⟩ := tru3 u
      refine ⟨e', List.mem_of_find?_eq_some he', by unfold dfOf; rw [he'], ?_, of_decide_eq_true u2, of_decide_eq_true u3, ?_⟩
      · have g := He.glo_ok X G (fact_mem c (f := .glo e.nm) (List.mem_append_left _ (List.mem_append_left _ (List.mem_map.mpr ⟨e, em, rfl⟩))))
        rw [← en, g, of_decide_eq_true u1]
      · show ((l.find? fun e2 => decide (e2.id = e.id)).map (·.ir)).isSome = true
        rw [he']
        rfl
    · cases u
  refine ⟨fun f d hf => ?_, fun f d hf hk => ?_, fun x f ps hx => ?_, fun x f ps kw d0 hx => ?_, fun x d hx => ?_, fun x hx => ?_, fun x cc ri hx => ?_, ?_⟩
  · obtain ⟨e, em, rfl, hd⟩ := key f d hf
    rw [hd]
    have O := de_ok c em (hde e em)
    exact ⟨O.fd, O.sc, O.ck, O.np, O.ns⟩
  · obtain ⟨e, em, rfl, hd⟩ := key f d hf
    rw [hd] at hk ⊢
    refine (de_ok c em (hde e em)).bd ?_
    cases q : e.kd with
    | none => rfl
    | some d =>
      have hk : e.kwd.map (fun q => (q.1, q.2.v K)) = [] := hk
      unfold De.kwd at hk
      rw [q] at hk
      cases hk
  · unfold glOf at hx
    split at hx
    · cases hx
    split at hx
    · cases hx
    · obtain ⟨e, he, e2⟩ := Option.map_eq_some_iff.mp hx
      cases hk : e.kd with
      | some d => rw [hk] at e2; cases e2
      | none =>
        rw [hk] at e2
        cases e2
        obtain ⟨e', em', hd, g, h1, h2, h3⟩ := key2 x e he
        rw [hd]
        exact ⟨g, h1.symm, h3, (de_ok c em' (hde e' em')).bd (h2.trans hk)⟩
  · unfold glOf at hx
    split at hx
    · cases hx
    split at hx
    · cases hx
    · obtain ⟨e, he, e2⟩ := Option.map_eq_some_iff.mp hx
      cases hk : e.kd with
      | none => rw [hk] at e2; cases e2
      | some d =>
        rw [hk] at e2
        cases e2
        obtain ⟨e', em', hd, g, h1, h2, h3⟩ := key2 x e he
        rw [hd, ← h1]
        obtain ⟨k1, k2⟩ := (de_ok c em' (hde e' em')).kb _ (h2.trans hk)
        exact ⟨g, k1, h3, k2⟩
  · unfold glOf at hx
    split at hx
    · rename_i d' hl
      cases hx
      have m := lookA_mem hl
      have f := fact_mem c (f := faC (x, d)) (List.mem_append_left _ (List.mem_append_right _ (List.mem_append_left _ (List.mem_map.mpr ⟨_, m, rfl⟩))))
      have o := hcs _ m
      cases d with
      | int i =>
        obtain ⟨t, g⟩ := He.int_ok X G (show (He.Fa.int x i).ok K = true from f)
        exact ⟨.int i, _, g, ⟨t, rfl⟩, fun _ _ => rfl⟩
      | str z =>
        obtain ⟨t, g⟩ := He.str_ok X G (show (He.Fa.str x z).ok K = true from f)
        exact ⟨.str z, _, g, ⟨t, rfl⟩, fun _ _ => rfl⟩
      | _ => cases o
    · split at hx
      · cases hx
      · obtain ⟨e, he, e2⟩ := Option.map_eq_some_iff.mp hx
        cases hk : e.kd <;> rw [hk] at e2 <;> cases e2
  · exact He.free_ok X G (fact_mem c (f := .free x) (List.mem_append_left _ (List.mem_append_right _ (List.mem_append_right _ (List.mem_map.mpr ⟨x, hx, rfl⟩)))))
  · unfold glOf at hx
    split at hx
    · cases hx
    split at hx
    · rename_i e he
      cases hx
      have em := List.mem_of_find?_eq_some he
      have ex : e.x = x := by
        have z := List.find?_some he
        exact of_decide_eq_true z
      subst ex
      rw [ca_of hux em]
      refine ⟨xe_glo X G c em, fun fs hf => ?_⟩
      have O := xe_ok hx0 em hf
      obtain ⟨fd, F⟩ := init_of c em hf
      have q := hxe e em
      unfold chkXe at q
      rw [hf] at q
      obtain ⟨q1, q2, q3⟩ := tru3 q
      have FS := scOk_ok q2
      have bb : Binds K fd e.N [] := by
        obtain ⟨as, ea, eps⟩ := argsOk_ok q1
        rw [ea] at F
        refine F.bindsN fun kV doc pm an cdv ct us hl => ?_
        rw [← eps]
        refine bind_pos ?_ (by rw [hl, ← eps, List.length_map])
        rw [eps]
        exact FS.nd
      have ne : xs.isEmpty = false := by
        cases xs with
        | nil => cases em
        | cons _ _ => rfl
      have B : BCls K (He.ga K "CrossError") := by
        have z := (tru2 hx0).1
        rw [ne] at z
        exact bclsB_ok z
      have mB : mg "CrossError" = some (.ref (He.ga K "CrossError")) := by
        have z := (tru2 hux).2
        rw [ne] at z
        obtain ⟨e0, m0, z0⟩ := List.any_eq_true.mp (show (xs.any fun e => decide (e.x = "CrossError")) = true from z)
        have q0 := xe_glo X G c m0
        rw [of_decide_eq_true z0] at q0
        exact q0
      refine ⟨"__init__", _, _, _, _, _, fd, e.N, "CrossError", _, F, FS, mB, B, q3, ?_, ?_, O.t, bb, fun f hff => ?_, O.l⟩
      · rw [ca_of hux em]
        exact O.o
      · rw [ca_of hux em]
        exact O.i
      · rw [ca_of hux em]
        exact O.no f (List.mem_flatMap.mpr ⟨e, em, by rw [hf]; exact hff⟩)
    · obtain ⟨e, he, e2⟩ := Option.map_eq_some_iff.mp hx
      cases hk : e.kd <;> rw [hk] at e2 <;> cases e2
  · have key : ∀ c ∈ (xiOf xs).ids, ∃ e ∈ xs, ∃ fs, e.fs = some fs ∧ e.c = c ∧ caOf K xs c = He.ga K e.x := fun c hc => by
      obtain ⟨e, he, rfl⟩ := List.mem_map.mp hc
      obtain ⟨em, es⟩ := List.mem_filter.mp he
      obtain ⟨fs, hfs⟩ := Option.isSome_iff_exists.mp es
      exact ⟨e, em, fs, hfs, rfl, ca_of hux em⟩
    refine ⟨fun c hc => ?_, fun c hc => ?_, fun c hc f hf => ?_, fun c hc d hd => ?_, fun c hc d hd => ?_⟩ <;> obtain ⟨e, em, fs, hfs, rfl, hca⟩ := key c hc <;> rw [hca]
    · exact (xe_ok hx0 em hfs).xf
    · exact (xe_ok hx0 em hfs).ex
    · exact (xe_ok hx0 em hfs).no f hf
    · obtain ⟨e', em', rfl⟩ := List.mem_map.mp hd
      rw [ca_of hux em']
      exact (xe_ok hx0 em hfs).kit e' em'
    · obtain ⟨e', em', rfl⟩ := List.mem_map.mp hd
      rw [ca_of hux em']
      exact (xe_ok hx0 em hfs).exm e' em'
end
/-! ### the hook -/
def obsX (fa : List He.Fa) (fn : List He.DefD) (xs : List Xe) (K : PySem.W.Frag) : He.AlD := ((He.obsD fa fn K).1 && xeB K xs, (He.obsD fa fn K).2)
def obsXG (n : Nat) (fa : List He.Fa) (fn : List He.DefD) (xs : List Xe) (g : Addr → Option Obj) : He.AlD := obsX fa fn xs (He.frG g (PySem.cStatics :: He.asD g n))
theorem obsX_ok {fa : List He.Fa} {fn : List He.DefD} {xs : List Xe} {K : PySem.W.Frag} (h : obsX fa fn xs K = He.valD fn) : He.SaysD fa fn K ∧ xeB K xs = true := by
  have h1 : ((He.obsD fa fn K).1 && xeB K xs) = true := congrArg (fun z : He.AlD => z.1) h
  have h2 : (He.obsD fa fn K).2 = fn.map He.DefD.val := congrArg (fun z : He.AlD => z.2) h
  obtain ⟨q1, q2⟩ := tru2 h1
  exact ⟨Prod.ext q1 h2, q2⟩
def hookX (n : Nat) (fa : List He.Fa) (fn : List He.DefD) (xs : List Xe) : PySem.W.Hook where
  α := He.AlD
  obs := fun s => obsXG n fa fn xs s.heap.get?
  val := fun _ => He.valD fn
  says := fun _ h => ∃ K : PySem.W.Frag, K.In h ∧ obsX fa fn xs K = He.valD fn
  of := fun _ _ e => ⟨_, He.frG_in, e⟩
  keeps := fun _ _ _ ⟨K, hK, c⟩ k => ⟨K, PySem.W.Frag.In.keeps hK k, c⟩
theorem obsXG_eq {n : Nat} {fa : List He.Fa} {fn : List He.DefD} {xs : List Xe} {g : Addr → Option Obj} {s : Shared} (h : ∀ a, g a = s.heap.get? a) : obsXG n fa fn xs g = (hookX n fa fn xs).obs s := by
  have e : g = s.heap.get? := funext h
  rw [e] <;> rfl
/-! ### the law's call -/
section
variable {P : Program} {w : World} {K : PySem.W.Frag}
theorem main_call {mg mb : Str → Option Value} {k : Nat} {fa a : Addr} {fd : FuncData} {x : Str} {st : Shared} {us : List Value} {ns : List Int} {sp : Sp} (inK : K.In st.heap) (nG : st.heap.Ns mainGlobals mg) (nB : st.heap.Ns builtinsNs mb) (boot : ∀ y : Str, y ≠ "__name__" → mb y = bootBuiltins y)
    (nL : st.heap.NoLimit) (noG : st.gens = #[]) (obj : st.heap.get? a = some { cls := .type "list", data := .seq us.toArray }) (hnts : IntsAre us ns) (few : ns.length ≤ sizeLine) (room : Room k callerA)
    (fn : ∀ B : Heap, K.In B → B.Ns mainGlobals mg → FnG P w K mg B (L2.CX P w) k fa fd [x] sp) (bnd : Binds K fd [x] [])
    (say : ∀ H : Hp, RoL K H a (ns.map V.int) → sp [.ref a] H (fun v _ => v = .bl true) E0) :
    codeAny (model P w) callerA (.call (.ref fa) ⟨[.ref a], []⟩) (fun r s' => r = .ok (.ret (.bool true)) ∧
      OldK st.heap s'.heap ∧ s'.os = st.os ∧ AllBare s'.gens) st := by
  have rel := vals_ints hnts
  have nus := hnts.length
  -- H: at most the script is tracked
  suffices main : ∀ H : Hp, (∀ b, b ≠ a → H b = none) → (∀ u, H a = some u → u = .frz { cls := .type "list", data := .seq us.toArray } (.lst (ns.map V.int)) ∧ K.lookup a = none) → RoL K H a (ns.map V.int) →
      codeAny (model P w) callerA (.call (.ref fa) ⟨[.ref a], []⟩) (fun r s' => r = .ok (.ret (.bool true)) ∧
        OldK st.heap s'.heap ∧ s'.os = st.os ∧ AllBare s'.gens) st by
    cases lk : K.lookup a with
    | some o =>
      have q := inK a o lk
      rw [obj] at q
      cases q
      refine main (fun _ => none) (fun _ _ => rfl) (fun _ z => nomatch z) (.inr ⟨_, us.toArray, _, lk, rfl, rfl, rfl, ?_, ?_⟩)
      · rw [List.size_toArray, nus]
        exact few
      · simpa using rel
    | none =>
      refine main (upd (fun _ => none) a (.frz { cls := .type "list", data := .seq us.toArray } (.lst (ns.map V.int)))) (fun b hb => upd_ne hb) (fun u z => ?_) (.inl ⟨_, upd_same⟩)
      rw [upd_same] at z
      cases z
      exact ⟨rfl, lk⟩
  intro H off at_ hR
  have hok : HOk P w H st.heap := fun b u z => by
    by_cases e : b = a
    · subst e
      obtain ⟨rfl, _⟩ := at_ u z
      refine ⟨obj, ?_, us, _, rel, obj⟩
      rw [List.length_map]
      exact few
    · rw [off b e] at z
      cases z
  have none_of : ∀ {b : Addr} {o : Obj}, st.heap.get? b = some o → (b = a → H a = none) → (hidT st.heap H).get? b = some o := fun {b o} z na => hidT_get z (by
    by_cases e : b = a
    · rw [e]
      exact na e
    · exact off b e)
  have keepN : ∀ {b : Addr} {m : Str → Option Value}, st.heap.Ns b m → (hidT st.heap H).Ns b m := by
    rintro b m ⟨o, es, ep, z, hd, rest⟩
    refine ⟨o, es, ep, none_of z fun e => ?_, hd, rest⟩
    rw [e, obj] at z
    cases z
    exact absurd hd fun q => nomatch (show Data.seq us.toArray _ = Data.dict es ep from q)
  have inB : K.In (hidT st.heap H) := fun b o z => none_of (inK b o z) fun e => by
    cases q : H a with
    | none => rfl
    | some u =>
      rw [e, (at_ u q).2] at z
      cases z
  obtain ⟨mc, l1, l2⟩ := nL
  have md : Mod K mg (hidT st.heap H) := ⟨inB, keepN nG, ⟨mb, keepN nB, boot⟩, mc, keepN l1, l2⟩
  have e0 : Env0 P w K mg (hidT st.heap H) callerA [] st H := by
    refine ⟨rfl, md, fun b o z => of_hidT z, Nat.le_of_eq (hidT_size _ _), trivial, ?_, hok, .of_eq noG⟩
    intro b hb
    cases hb
  refine codeAny_mono ((fn _ inB (keepN nG)).run callerA [] st H ⟨[.ref a], []⟩ [.ref a] [.ref a] _ _ room rfl e0 (bnd st [.ref a] inK rfl) (.cons rfl .nil) (say H hR)) fun r s' z => ?_
  cases r with
  | error e =>
    obtain ⟨_, _, _, _, _, _, _, _, _, _, _, _, no⟩ := z
    exact no.elim
  | ok fl =>
    cases fl with
    | next => exact z.elim
    | brk => exact z.elim
    | cont => exact z.elim
    | ret u =>
      obtain ⟨v, H', os, bare, un, hok', rv, q⟩ := z
      cases (show v = .bl true from q)
      cases (show u = Value.bool true from rv)
      refine ⟨rfl, OldK.of_keep fun b o eb => ?_, os, bare⟩
      cases hb : H b with
      | none => exact un.keep b o eb hb (fun y => nomatch y) (fun y => nomatch y)
      | some u =>
        by_cases e : b = a
        · subst e
          obtain ⟨rfl, _⟩ := at_ u hb
          have k := hok' b _ (un.frzs b _ _ hb)
          rw [obj] at eb
          cases eb
          exact k.1
        · rw [off b e] at hb
          cases hb
end
/-- the law's walk, from what its interpreter answers -/
theorem walk_of {L : PySem.W.OpenLaw} {n k : Nat} {q : Program} {loose : List Str} {XP : (Str → Option Value) → Heap → Prop} {dr : DefRec} {l : List De} {cs : List (Str × D)} {xs : List Xe} {e : De}
    (hm : L.most = some n) (hn : n ≤ sizeLine) (hdf : dr.params.defaults = []) (room : Room (k + 2) callerA) (nm : dr.name = e.nm) (hu : uniq l = true) (hc : chkAll l cs xs = true) (he : e ∈ l) (hp : ∃ x, e.ps = [x] ∧ e.kd = none) (hf : (l.find? fun e' => decide (e'.id = e.id)) = some e)
    (sem : ∀ ns : List Int, ns.length ≤ n → (∀ i ∈ ns, Builtin.Int.intBits i ≤ 1048576) → ∃ S, callN (ΓOf l) k e.id [.rol (ns.map D.int)] [] = .ok (.bl true) S) :
    PySem.W.WalkO q loose XP (fun _ h => ∃ K : PySem.W.Frag, K.In h ∧ obsX (faOf l cs xs) (fnOf l xs) xs K = He.valD (fnOf l xs)) L.row.toRowW dr [] (fun f vs => PySem.call f vs) := by
  refine Att.attach_callB hm hdf fun w s0 st mg mb fa o pm cd doc a us ns G Y ho hd hcd hmg obj hnts hlen bits noG => ?_
  obtain ⟨K, inK, c0⟩ := Y
  obtain ⟨c, cx⟩ := obsX_ok c0
  have L0 := link_of inK G.T.g c cx hu hc
  have g := He.glo_ok inK G.T.g (fact_mem c (f := .glo e.nm) (List.mem_append_left _ (List.mem_append_left _ (List.mem_map.mpr ⟨e, he, rfl⟩))))
  rw [nm, g] at hmg
  cases hmg
  obtain ⟨x, hx, hkd⟩ := hp
  have hG : ΓOf l e.id = some e.ir := by unfold ΓOf; rw [hf]; rfl
  have hd : dfOf K l e.id = deDf K e := by unfold dfOf; rw [hf]
  have hb := L0.bd e.id e.ir hG (by
    rw [hd]
    show e.kwd.map _ = []
    unfold De.kwd
    rw [hkd]
    rfl)
  rw [hd] at hb
  have hb : Binds K (fdAt K (He.ga K e.nm) e) e.ps [] := hb
  rw [hx] at hb
  refine main_call (x := x) (fd := fdAt K (He.ga K e.nm) e) (sp := spOf ⟨L.prog, w, K, caOf K xs⟩ (callN (ΓOf l) k e.id)) inK G.T.g G.T.b G.T.builtins G.T.nolimit noG obj hnts (Nat.le_trans hlen hn) room (fun B hB nB => ?_) hb fun H hR => ?_
  · have q := fns_ok (P := L.prog) (w := w) (base := B) L0 k e.id e.ir hG
    rw [hd] at q
    have q : FnG L.prog w K mg B (L2.CX L.prog w) (k + 2) (He.ga K e.nm) (fdAt K (He.ga K e.nm) e) e.ps (spOf ⟨L.prog, w, K, caOf K xs⟩ (callN (ΓOf l) k e.id)) := q
    rw [hx] at q
    exact q
  · obtain ⟨S, hS⟩ := sem ns hlen bits
    refine ⟨[], [], [.rol (ns.map D.int)], ⟨rfl, List.nodup_nil, fun i b c hb _ => by simp at hb⟩, Reps.one ⟨a, _, rfl, hR, ?_⟩, ?_⟩
    · clear hS obj hnts hlen bits hR
      induction ns with
      | nil => rfl
      | cons i ns ih => exact ⟨.int i, _, rfl, rfl, ih⟩
    · rw [hS]
      exact fun μ' H' _ _ v hv => hv
end Iv

namespace Iv
open PySem
/-! P1: how the interpreter is worked with. -/
theorem keepC_refl (n : Nat) : ∀ S : Store, keepC n S S = true
  | [] => rfl
  | c :: S => by unfold keepC; simp [keepC_refl n S]
theorem gc_drop {S T : Store} {d : D} (h : d.cl S.length = true) : gc S d (S ++ T) = .ok d S := by
  unfold gc
  rw [List.take_left, keepC_refl, if_pos rfl, if_pos h]
theorem gc_same {S : Store} {d : D} (h : d.cl S.length = true) : gc S d S = .ok d S := by
  have := gc_drop (T := []) h
  rwa [List.append_nil] at this
theorem gc_new {S T : Store} {j : Nat} {c : Cell} (h : T[j]? = some c) (hc : c.cl S.length = true) : gc S (.loc (S.length + j)) (S ++ T) = .ok (.loc S.length) (S ++ [c]) := by
  have e : (S ++ T)[S.length + j]? = some c := by
    rw [List.getElem?_append_right (by omega)]
    simpa using h
  have n : ¬ (D.loc (S.length + j)).cl S.length = true := fun z => by
    have := of_decide_eq_true (p := S.length + j < S.length) z
    omega
  unfold gc
  rw [List.take_left, keepC_refl, if_pos rfl, if_neg n]
  simp only [e, if_pos hc]
/-- one cell changed -/
theorem keepC_set {n : Nat} {c : Cell} (hc : c.cl n = true) : ∀ {S : Store} {i : Nat}, keepC n (S.set i c) S = true
  | [], _ => rfl
  | c0 :: S, 0 => by
    show ((decide (c = c0) || c.cl n) && keepC n S S) = true
    rw [hc, keepC_refl]
    simp
  | c0 :: S, i + 1 => by
    show ((decide (c0 = c0) || c0.cl n) && keepC n (S.set i c) S) = true
    rw [keepC_set hc]
    simp
theorem gc_set {S T : Store} {d : D} {i : Nat} {c : Cell} (hc : c.cl S.length = true) (h : d.cl S.length = true) : gc S d (S.set i c ++ T) = .ok d (S.set i c) := by
  unfold gc
  have e : ((S.set i c) ++ T).take S.length = S.set i c := by
    have := List.take_left (l₁ := S.set i c) (l₂ := T)
    rwa [List.length_set] at this
  rw [e, keepC_set hc, if_pos rfl, if_pos h]
theorem gc_setN {S T : Store} {i j : Nat} {c c' : Cell} (hc : c.cl S.length = true) (h : T[j]? = some c') (hc' : c'.cl S.length = true) : gc S (.loc (S.length + j)) (S.set i c ++ T) = .ok (.loc S.length) (S.set i c ++ [c']) := by
  have e : ((S.set i c) ++ T).take S.length = S.set i c := by
    have := List.take_left (l₁ := S.set i c) (l₂ := T)
    rwa [List.length_set] at this
  have e2 : (S.set i c ++ T)[S.length + j]? = some c' := by
    rw [List.getElem?_append_right (by rw [List.length_set]; omega), List.length_set]
    simpa using h
  have n : ¬ (D.loc (S.length + j)).cl S.length = true := fun z => by
    have := of_decide_eq_true (p := S.length + j < S.length) z
    omega
  unfold gc
  rw [e, keepC_set hc, if_pos rfl, if_neg n]
  simp only [e2, if_pos hc']
theorem callN_eq {Γ : Nat → Option FDef} {k f : Nat} {d : FDef} {ds : List D} {S : Store} (h : Γ f = some d) (hn : ds.length = d.np) :
    callN Γ (k + 1) f ds S = gcO S (bodyO (evSs (callN Γ k) d.body (ds.map some ++ List.replicate (d.ns - d.np) none) S)) := by
  show (match Γ f with | some d => if ds.length = d.np then gcO S (bodyO (evSs (callN Γ k) d.body (ds.map some ++ List.replicate (d.ns - d.np) none) S)) else .bad | none => .bad) = _
  rw [h]
  simp only [if_pos hn]
@[simp] theorem get_app {S T : Store} {j : Nat} : (S ++ T)[S.length + j]? = T[j]? := by
  rw [List.getElem?_append_right (by omega)]
  congr 1
  omega
@[simp] theorem get_app0 {S T : Store} : (S ++ T)[S.length]? = T[0]? := by
  rw [List.getElem?_append_right (by omega)]
  congr 1
  omega
theorem get_old {S T : Store} {i : Nat} {c : Cell} (h : S[i]? = some c) : (S ++ T)[i]? = some c := by
  rw [List.getElem?_append_left (List.getElem?_eq_some_iff.mp h).1]
  exact h
end Iv

set_option maxRecDepth 100000
namespace Iv
open PySem
/-! P2: the interpreter, step by step. -/
section
variable {F : Fns} {ρ : Env} {S S' : Store} {α β : Type}
@[simp] theorem bind_ok {a : α} {f : α → Store → Out β} : (Out.ok a S).bind f = f a S := id rfl
@[simp] theorem bindS_ok {a : α} {f : α → Store → OutS} : (Out.ok a S).bindS f = f a S := id rfl
@[simp] theorem bind_nx {f : Env → Store → OutS} : (OutS.nx ρ S).bind f = f ρ S := id rfl
@[simp] theorem bind_rt {d : D} {f : Env → Store → OutS} : (OutS.rt d S).bind f = .rt d S := id rfl
@[simp] theorem bind_bk {f : Env → Store → OutS} : (OutS.bk ρ S).bind f = .bk ρ S := id rfl
@[simp] theorem bind_ct {f : Env → Store → OutS} : (OutS.ct ρ S).bind f = .ct ρ S := id rfl
/-- a continuation that simp does not look into -/
class Kc (α β : Type) where
  k : α → Store → Out β
class KcS (α : Type) where
  k : α → Store → OutS
class KcT where
  k : Env → Store → OutS
def bindI (o : Out α) [c : Kc α β] : Out β := o.bind c.k
def bindSI (o : Out α) [c : KcS α] : OutS := o.bindS c.k
def bindTI (o : OutS) [c : KcT] : OutS := o.bind c.k
@[simp ↓] theorem bind_I {o : Out α} {f : α → Store → Out β} : o.bind f = @bindI α β o ⟨f⟩ := id rfl
@[simp ↓] theorem bindS_I {o : Out α} {f : α → Store → OutS} : o.bindS f = @bindSI α o ⟨f⟩ := id rfl
@[simp ↓] theorem bindT_I {o : OutS} {f : Env → Store → OutS} : o.bind f = @bindTI o ⟨f⟩ := id rfl
@[simp] theorem bindI_ok {a : α} {f : α → Store → Out β} : @bindI α β (Out.ok a S) ⟨f⟩ = f a S := id rfl
@[simp] theorem bindSI_ok {a : α} {f : α → Store → OutS} : @bindSI α (Out.ok a S) ⟨f⟩ = f a S := id rfl
@[simp] theorem bindTI_nx {f : Env → Store → OutS} : @bindTI (OutS.nx ρ S) ⟨f⟩ = f ρ S := id rfl
@[simp] theorem bindTI_rt {d : D} {f : Env → Store → OutS} : @bindTI (OutS.rt d S) ⟨f⟩ = .rt d S := id rfl
@[simp] theorem bindTI_bk {f : Env → Store → OutS} : @bindTI (OutS.bk ρ S) ⟨f⟩ = .bk ρ S := id rfl
@[simp] theorem bindTI_ct {f : Env → Store → OutS} : @bindTI (OutS.ct ρ S) ⟨f⟩ = .ct ρ S := id rfl
theorem ite_cg {b b' : Bool} {x y : OutS} (h : b = b') : (if b = true then x else y) = (if b' = true then x else y) := by rw [h]
/-- a value that is known -/
def vr (o : Option (Option D)) (S : Store) : Out D := match o with
  | some (some d) => .ok d S
  | _ => .bad
@[simp] theorem vr_ok {d : D} : vr (some (some d)) S = .ok d S := id rfl
@[simp] theorem ev_var {i : Nat} : evE F (.var i) ρ S = vr ρ[i]? S := id rfl
@[simp] theorem ev_con {c : D} : evE F (.con c) ρ S = .ok c S := id rfl
@[simp] theorem ev_glo {x : Str} {c : D} : evE F (.glo x c) ρ S = .ok c S := id rfl
@[simp] theorem ev_bin {op : Operator} {a b : IE} : evE F (.bin op a b) ρ S = (evE F a ρ S).bind fun x S1 => (evE F b ρ S1).bind fun y S2 => opD op x y S2 := id rfl
@[simp] theorem ev_neg {a : IE} : evE F (.neg a) ρ S = (evE F a ρ S).bind fun x S1 => match x with
    | .int i => .ok (.int (-i)) S1
    | _ => .bad := id rfl
@[simp] theorem ev_cmp {op : CmpOp} {a b : IE} : evE F (.cmp op a b) ρ S = (evE F a ρ S).bind fun x S1 => (evE F b ρ S1).bind fun y S2 => ok? ((cmpD op x y S2).map .bl) S2 := id rfl
@[simp] theorem ev_chn {op op' : CmpOp} {a b c : IE} : evE F (.chn op op' a b c) ρ S = (evE F a ρ S).bind fun x S1 => (evE F b ρ S1).bind fun y S2 => (ok? (cmpD op x y S2) S2).bind fun k _ =>
      if k then (evE F c ρ S2).bind fun z S3 => ok? ((cmpD op' y z S3).map .bl) S3 else .ok (.bl false) S2 := id rfl
@[simp] theorem ev_and {a b : IE} : evE F (.and a b) ρ S = (evE F a ρ S).bind fun x S1 => (blO x S1).bind fun k _ => if k then evE F b ρ S1 else .ok (.bl false) S1 := id rfl
@[simp] theorem ev_or {a b : IE} : evE F (.or a b) ρ S = (evE F a ρ S).bind fun x S1 => (blO x S1).bind fun k _ => if k then .ok (.bl true) S1 else evE F b ρ S1 := id rfl
@[simp] theorem ev_not {a : IE} : evE F (.not a) ρ S = (evE F a ρ S).bind fun x S1 => (blO x S1).bind fun k _ => .ok (.bl (!k)) S1 := id rfl
@[simp] theorem ev_one {a : IE} : evE F (.one a) ρ S = evE F a ρ S := id rfl
@[simp] theorem ev_ite {c a b : IE} : evE F (.ite c a b) ρ S = (evE F c ρ S).bind fun x S1 => (blO x S1).bind fun k _ => if k then evE F a ρ S1 else evE F b ρ S1 := id rfl
@[simp] theorem ev_tup {es : IEs} : evE F (.tup es) ρ S = (evEs F es ρ S).bind fun ds S1 => if ds.length ≤ sizeLine then .ok (.tup ds) S1 else .bad := id rfl
@[simp] theorem ev_lst {es : IEs} : evE F (.lst es) ρ S = (evEs F es ρ S).bind fun ds S1 => if ds.length ≤ sizeLine then newC (.lst ds) S1 else .bad := id rfl
@[simp] theorem ev_dsp {ks vs : IEs} : evE F (.dsp ks vs) ρ S = (evEs F ks ρ S).bind fun ks S1 => (evEs F vs ρ S1).bind fun vs S2 => match keys? ks with
    | some qs => if qs.length = vs.length then newC (.dct false (fromPairs [] (qs.zip vs))) S2 else .bad
    | none => .bad := id rfl
@[simp] theorem ev_call {f : Nat} {es : IEs} : evE F (.call f es) ρ S = (evEs F es ρ S).bind fun ds S1 => F f ds S1 := id rfl
@[simp] theorem ev_callk {f : Nat} {es : IEs} {e : IE} {w : Bool} : evE F (.callk f es e w) ρ S = (evEs F es ρ S).bind fun ds S1 => (evE F e ρ S1).bind fun d S2 => F f (ds ++ [d]) S2 := id rfl
@[simp] theorem ev_rev {o : IE} : evE F (.rev o) ρ S = (evE F o ρ S).bind fun x S1 => match x with
    | .loc n => match lstAt S1 n with
      | some xs => newC (.lst xs.reverse) S1
      | none => .bad
    | .tup xs => .ok (.tup xs.reverse) S1
    | _ => .bad := id rfl
@[simp] theorem ev_bf {b : Bf} {es : IEs} : evE F (.bf b es) ρ S = (evEs F es ρ S).bind fun ds S1 => bfD b ds S1 := id rfl
@[simp] theorem ev_bm {m : Bm} {o : IE} {es : IEs} : evE F (.bm m o es) ρ S = (evE F o ρ S).bind fun x S1 => if bmK m x S1 then (evEs F es ρ S1).bind fun ds S2 => bmD m x ds S2 else .bad := id rfl
@[simp] theorem ev_set0 : evE F .set0 ρ S = newC (.set []) S := id rfl
@[simp] theorem ev_ix {o i : IE} : evE F (.ix o i) ρ S = (evE F o ρ S).bind fun x S1 => (evE F i ρ S1).bind fun y S2 => ok? (ixD x y S2) S2 := id rfl
@[simp] theorem ev_slc {o : IE} {lo hi : IO} : evE F (.slc o lo hi) ρ S = (evE F o ρ S).bind fun x S1 => (evO F lo ρ S1).bind fun l S2 => (evO F hi ρ S2).bind fun h S3 => slD x l h S3 := id rfl
theorem ev_lc {e : IE} {t : IT} {it : II} {c : IO} : evE F (.lc e t it c) ρ S = (evI F it ρ S).bind fun p S1 => (loopC p.2 (turnC F e t c ρ) S1.length p.1 (S1 ++ [.lst []])).bind fun _ S5 => .ok (.loc S1.length) S5 := id rfl
@[simp] theorem evs_nil : evEs F .nil ρ S = .ok [] S := id rfl
@[simp] theorem evs_cons {e : IE} {es : IEs} : evEs F (.cons e es) ρ S = (evE F e ρ S).bind fun d S1 => (evEs F es ρ S1).bind fun ds S2 => .ok (d :: ds) S2 := id rfl
@[simp] theorem evo_none : evO F .none ρ S = .ok none S := id rfl
@[simp] theorem evo_some {e : IE} : evO F (.some e) ρ S = (evE F e ρ S).bind fun x S1 => match x with
    | .int i => .ok (some i) S1
    | _ => .bad := id rfl
@[simp] theorem evi_val {e : IE} : evI F (.val e) ρ S = (evE F e ρ S).bind fun x S1 => match walkOf S1 x with
    | some xs => .ok (xs, srcOf x xs) S1
    | none => .bad := id rfl
@[simp] theorem evi_range {es : IEs} : evI F (.range es) ρ S = (evEs F es ρ S).bind fun ds S1 => match rangeOf ds with
    | some xs => .ok (xs, .free) S1
    | none => .bad := id rfl
@[simp] theorem as_nm {i : Nat} {d : D} : asgT F (.nm i) d ρ S = if i < ρ.length then .ok (ρ.set i (some d)) S else .bad := id rfl
@[simp] theorem as_sub {o i : IE} {d : D} : asgT F (.sub o i) d ρ S = (evE F o ρ S).bind fun x S1 => (evE F i ρ S1).bind fun y S2 => (setD x y d S2).bind fun _ S3 => .ok ρ S3 := id rfl
@[simp] theorem as_tup {ts : ITs} {ds : List D} : asgT F (.tup ts) (.tup ds) ρ S = if ds.length = slotsTs.len ts then asgTs F ts ds ρ S else .bad := id rfl
@[simp] theorem ass_nil : asgTs F .nil [] ρ S = .ok ρ S := id rfl
@[simp] theorem ass_cons {t : IT} {ts : ITs} {d : D} {ds : List D} : asgTs F (.cons t ts) (d :: ds) ρ S = (asgT F t d ρ S).bind fun ρ' S' => asgTs F ts ds ρ' S' := id rfl
@[simp] theorem st_nil' : evSs F .nil ρ S = .nx ρ S := id rfl
@[simp] theorem st_cons' {s : IS} {ss : ISs} : evSs F (.cons s ss) ρ S = (evS F s ρ S).bind fun ρ' S' => evSs F ss ρ' S' := id rfl
@[simp] theorem st_expr' {e : IE} : evS F (.expr e) ρ S = (evE F e ρ S).bindS fun _ S1 => .nx ρ S1 := id rfl
@[simp] theorem st_asg' {t : IT} {e : IE} : evS F (.asg t e) ρ S = (evE F e ρ S).bindS fun d S1 => (asgT F t d ρ S1).bindS fun ρ' S' => .nx ρ' S' := id rfl
@[simp] theorem st_retn : evS F (.ret .none) ρ S = .rt .non S := id rfl
@[simp] theorem st_rets {e : IE} : evS F (.ret (.some e)) ρ S = (evE F e ρ S).bindS fun d S1 => .rt d S1 := id rfl
@[simp] theorem st_ife {c : IE} {a b : ISs} : evS F (.ife c a b) ρ S = ((evE F c ρ S).bind truO).bindS fun k S1 => if k then evSs F a ρ S1 else evSs F b ρ S1 := id rfl
theorem st_whl' {c : IE} {b : ISs} : evS F (.whl c b) ρ S = loopW (fun ρ S => (evE F c ρ S).bind truO) (evSs F b) fuelW ρ S := id rfl
@[simp] theorem st_for' {t : IT} {it : II} {b : ISs} : evS F (.for_ t it b) ρ S = (evI F it ρ S).bindS fun p S1 => loopF p.2 (fun x ρ S => (asgT F t x ρ S).bindS fun ρ' S' => evSs F b ρ' S') p.1 ρ S1 := id rfl
/-! ### steps on data -/
@[simp] theorem okq {a : α} : ok? (some a) S = .ok a S := id rfl
@[simp] theorem blo {k : Bool} : blO (.bl k) S = .ok k S := id rfl
@[simp] theorem truo {k : Bool} : truO (.bl k) S = .ok k S := id rfl
@[simp] theorem op_ii {op : Operator} {i j : Int} : opD op (.int i) (.int j) S = ok? ((opI op i j).map .int) S := id rfl
@[simp] theorem opi_add {i j : Int} : opI .Add i j = some (i + j) := id rfl
@[simp] theorem opi_sub {i j : Int} : opI .Sub i j = some (i - j) := id rfl
@[simp] theorem opi_mod {i j : Int} (h : 0 < j) : opI .Mod i j = some (i % j) := if_pos h
@[simp] theorem opi_fdiv {i j : Int} (h : 0 < j) (h2 : j.natAbs.log2 < 9000) : opI .FloorDiv i j = some (i / j) := if_pos ⟨h, h2⟩
@[simp] theorem opi_mul {i j : Int} (h : i.natAbs.log2 + j.natAbs.log2 < 1000000) : opI .Mult i j = some (i * j) := if_pos (decide_eq_true h)
@[simp] theorem cmp_lt {i j : Int} : cmpD .Lt (.int i) (.int j) S = some (decide (i < j)) := id rfl
@[simp] theorem cmp_le {i j : Int} : cmpD .LtE (.int i) (.int j) S = some (decide (i ≤ j)) := id rfl
@[simp] theorem cmp_gt {i j : Int} : cmpD .Gt (.int i) (.int j) S = some (decide (j < i)) := id rfl
@[simp] theorem cmp_ge {i j : Int} : cmpD .GtE (.int i) (.int j) S = some (decide (j ≤ i)) := id rfl
@[simp] theorem bf_len_rol {xs : List D} : bfD .len [.rol xs] S = .ok (.int xs.length) S := id rfl
@[simp] theorem bf_len_tup {xs : List D} : bfD .len [.tup xs] S = .ok (.int xs.length) S := id rfl
@[simp] theorem bf_len_loc {n : Nat} : bfD .len [.loc n] S = ok? ((lenD S (.loc n)).map fun n : Nat => D.int n) S := id rfl
@[simp] theorem bf_max {i j : Int} : bfD .max2 [.int i, .int j] S = .ok (.int (if j > i then j else i)) S := id rfl
@[simp] theorem bf_min {i j : Int} : bfD .min2 [.int i, .int j] S = .ok (.int (if j < i then j else i)) S := id rfl
@[simp] theorem newc {c : Cell} : newC c S = .ok (.loc S.length) (S ++ [c]) := id rfl
@[simp] theorem body_rt {d : D} : bodyO (.rt d S) = .ok d S := id rfl
@[simp] theorem body_nx : bodyO (.nx ρ S) = .ok .non S := id rfl
@[simp] theorem gco_ok {d : D} : gcO S (.ok d S') = gc S d S' := id rfl
end

@[simp] theorem line_eq : sizeLine = 16777216 := sizeLine_eq
@[simp] theorem cl_non {n : Nat} : D.non.cl n = true := id rfl
@[simp] theorem cl_bl {n : Nat} {b : Bool} : (D.bl b).cl n = true := id rfl
@[simp] theorem cl_int {n : Nat} {i : Int} : (D.int i).cl n = true := id rfl
@[simp] theorem cl_str {n : Nat} {x : Str} : (D.str x).cl n = true := id rfl
@[simp] theorem cl_tup {n : Nat} {xs : List D} : (D.tup xs).cl n = D.cls n xs := id rfl
@[simp] theorem cl_rol {n : Nat} {xs : List D} : (D.rol xs).cl n = D.cls n xs := id rfl
@[simp] theorem cl_loc {n m : Nat} : (D.loc m).cl n = decide (m < n) := id rfl
@[simp] theorem cls_nil {n : Nat} : D.cls n [] = true := id rfl
@[simp] theorem cls_cons {n : Nat} {x : D} {xs : List D} : D.cls n (x :: xs) = (x.cl n && D.cls n xs) := id rfl
@[simp] theorem cl_lst {n : Nat} {xs : List D} : (Cell.lst xs).cl n = D.cls n xs := id rfl
@[simp] theorem cl_dct {n : Nat} {lk : Bool} {kvs : List (Key × D)} : (Cell.dct lk kvs).cl n = D.cls n (kvs.map (·.2)) := id rfl
@[simp] theorem cl_set {n : Nat} {ks : List Key} : (Cell.set ks).cl n = true := id rfl
@[simp] theorem cl_ins {n c : Nat} {fs : List (Str × D)} : (Cell.ins c fs).cl n = D.cls n (fs.map (·.2)) := id rfl
@[simp] theorem gc_one {S : Store} {c : Cell} (h : c.cl S.length = true) : gc S (.loc S.length) (S ++ [c]) = .ok (.loc S.length) (S ++ [c]) := gc_new (j := 0) rfl h

/-! ### reading and writing by place -/
def ixC (c : Option Cell) (k : D) : Option D := match c, k with
  | some (.lst xs), .int i => ixAt xs i
  | some (.dct _ kvs), k => (D.key? k).bind fun q => lookA q kvs
  | some (.dtp kvs), .tup ks => (keys? ks).bind fun q => lookA q kvs
  | _, _ => none
@[simp] theorem ix_loc {n : Nat} {k : D} {S : Store} : ixD (.loc n) k S = ixC S[n]? k := id rfl
@[simp] theorem ixC_lst {xs : List D} {i : Int} : ixC (some (.lst xs)) (.int i) = ixAt xs i := id rfl
@[simp] theorem ixC_str {lk : Bool} {kvs : List (Key × D)} {x : Str} : ixC (some (.dct lk kvs)) (.str x) = lookA (.inr x) kvs := id rfl
@[simp] theorem ixC_int {lk : Bool} {kvs : List (Key × D)} {x : Int} : ixC (some (.dct lk kvs)) (.int x) = lookA (.inl x) kvs := id rfl
@[simp] theorem ix_tup {xs : List D} {i : Int} {S : Store} : ixD (.tup xs) (.int i) S = ixAt xs i := id rfl
@[simp] theorem ix_rol {xs : List D} {i : Int} {S : Store} : ixD (.rol xs) (.int i) S = ixAt xs i := id rfl
@[simp] theorem ixAt_nat {α : Type} {xs : List α} {i : Nat} : ixAt xs (i : Int) = xs[i]? := by
  unfold ixAt L2.atI L2.ixN
  rw [if_pos (by omega)]
  by_cases h : i < xs.length
  · rw [if_pos (by omega)]
    rfl
  · rw [if_neg (by omega), List.getElem?_eq_none (by omega)]
    rfl
@[simp] theorem ixAt_0 {α : Type} {xs : List α} : ixAt xs 0 = xs[0]? := ixAt_nat (i := 0)
@[simp] theorem ixAt_1 {α : Type} {xs : List α} : ixAt xs 1 = xs[1]? := ixAt_nat (i := 1)
@[simp] theorem ixAt_2 {α : Type} {xs : List α} : ixAt xs 2 = xs[2]? := ixAt_nat (i := 2)
@[simp] theorem ixN_nat {n i : Nat} : L2.ixN n (i : Int) = if i < n then some i else none := by
  unfold L2.ixN
  rw [if_pos (by omega)]
  by_cases h : i < n
  · rw [if_pos (by omega), if_pos h]
    rfl
  · rw [if_neg (by omega), if_neg h]
@[simp] theorem ixN_0 {n : Nat} : L2.ixN n 0 = if 0 < n then some 0 else none := ixN_nat (i := 0)
@[simp] theorem ixN_1 {n : Nat} : L2.ixN n 1 = if 1 < n then some 1 else none := ixN_nat (i := 1)
@[simp] theorem ixN_2 {n : Nat} : L2.ixN n 2 = if 2 < n then some 2 else none := ixN_nat (i := 2)
def setC (c : Option Cell) (n : Nat) (i d : D) (S : Store) : Out Unit := match c, i with
    | some (.lst xs), .int k => match L2.ixN xs.length k with
      | some j => .ok () (S.set n (.lst (xs.set j d)))
      | none => .bad
    | some (.dct false kvs), k => match D.key? k with
      | some q => if kvs.length < sizeLine then .ok () (S.set n (.dct false (putA q d kvs))) else .bad
      | none => .bad
    | _, _ => .bad
def setL (j : Option Nat) (n : Nat) (xs : List D) (d : D) (S : Store) : Out Unit := match j with
      | some j => .ok () (S.set n (.lst (xs.set j d)))
      | none => .bad
@[simp] theorem set_loc {n : Nat} {i d : D} {S : Store} : setD (.loc n) i d S = setC S[n]? n i d S := id rfl
@[simp] theorem setC_lst {n : Nat} {k : Int} {xs : List D} {d : D} {S : Store} : setC (some (.lst xs)) n (.int k) d S = setL (L2.ixN xs.length k) n xs d S := id rfl
@[simp] theorem setL_some {j n : Nat} {xs : List D} {d : D} {S : Store} : setL (some j) n xs d S = .ok () (S.set n (.lst (xs.set j d))) := id rfl
@[simp] theorem setC_str {n : Nat} {x : Str} {kvs : List (Key × D)} {d : D} {S : Store} : setC (some (.dct false kvs)) n (.str x) d S = if kvs.length < sizeLine then .ok () (S.set n (.dct false (putA (.inr x) d kvs))) else .bad := id rfl
@[simp] theorem gc_set0 {S : Store} {d : D} {i : Nat} {c : Cell} (hc : c.cl S.length = true) (h : d.cl S.length = true) : gc S d (S.set i c) = .ok d (S.set i c) := by
  have := gc_set (T := []) (i := i) hc h
  rwa [List.append_nil] at this
theorem opi_pow {i : Int} {j : Nat} (h : Builtin.Int.intBits i * j ≤ 2 ^ 27) : opI .Pow i j = some (i ^ j) := by
  show (if 0 ≤ (j : Int) ∧ (Builtin.Int.intBits i : Int) * (j : Int) ≤ 2 ^ 27 then some (i ^ (j : Int).toNat) else none) = _
  rw [if_pos ⟨by omega, by exact_mod_cast h⟩, Int.toNat_natCast]

mutual
theorem D.cl_mono {m n : Nat} (h : m ≤ n) : ∀ {d : D}, d.cl m = true → d.cl n = true
  | .non, _ | .bl _, _ | .int _, _ | .str _, _ => rfl
  | .loc k, z => decide_eq_true (Nat.lt_of_lt_of_le (of_decide_eq_true z) h)
  | .tup xs, z => D.cls_mono h (xs := xs) z
  | .rol xs, z => D.cls_mono h (xs := xs) z
theorem D.cls_mono {m n : Nat} (h : m ≤ n) : ∀ {xs : List D}, D.cls m xs = true → D.cls n xs = true
  | [], _ => rfl
  | x :: xs, z => by
    have q := Bool.and_eq_true_iff.mp z
    exact Bool.and_eq_true_iff.mpr ⟨D.cl_mono h q.1, D.cls_mono h q.2⟩
end
/-! ### loops -/
def oneC (f : D → Store → Out (Option D)) (n : Nat) (x : D) (S : Store) : Out Unit := match f x S with
  | .ok (some d) S' => (gc S d S').bind fun d' S'' => match S''[n]? with
    | some (.lst acc) => if acc.length < sizeLine then .ok () (S''.set n (.lst (acc ++ [d']))) else .bad
    | _ => .bad
  | .ok none S' => (gc S .non S').bind fun _ S'' => .ok () S''
  | _ => .bad
theorem loopC_eq {src : Src} {f : D → Store → Out (Option D)} {n : Nat} {x : D} {xs : List D} {S : Store} : loopC src f n (x :: xs) S = if src.ok S = true then
      match f x S with
      | .ok (some d) S' => (gc S d S').bind fun d' S'' => match S''[n]? with
        | some (.lst acc) => if acc.length < sizeLine then loopC src f n xs (S''.set n (.lst (acc ++ [d']))) else .bad
        | _ => .bad
      | .ok none S' => (gc S .non S').bind fun _ S'' => loopC src f n xs S''
      | _ => .bad
    else .bad := id rfl
theorem loopC_cons {src : Src} {f : D → Store → Out (Option D)} {n : Nat} {x : D} {xs : List D} {S : Store} (h : src.ok S = true) : loopC src f n (x :: xs) S = (oneC f n x S).bind fun _ S' => loopC src f n xs S' := by
  rw [loopC_eq, if_pos h]
  unfold oneC
  cases f x S with
  | ok o S' =>
    cases o with
    | some d =>
      dsimp only
      cases gc S d S' with
      | ok d' S'' =>
        simp only [bind_ok]
        cases S''[n]? with
        | none => rfl
        | some c =>
          cases c with
          | lst acc =>
            dsimp only
            by_cases z : acc.length < sizeLine
            · rw [if_pos z, if_pos z]
              rfl
            · rw [if_neg z, if_neg z]
              rfl
          | _ => rfl
      | ex _ _ _ => rfl
      | bad => rfl
    | none =>
      dsimp only
      cases gc S .non S' with
      | ok d' S'' => rfl
      | ex _ _ _ => rfl
      | bad => rfl
  | ex _ _ _ => rfl
  | bad => rfl
theorem loopC_all {src : Src} {f : D → Store → Out (Option D)} {n : Nat} {xs : List D} {S : Store} (I : Nat → Store → Prop) (h0 : I 0 S) (step : ∀ i x S, I i S → xs[i]? = some x → src.ok S = true ∧ ∃ S', oneC f n x S = .ok () S' ∧ I (i + 1) S') (last : ∀ S, I xs.length S → src.ok S = true) :
    ∃ S', loopC src f n xs S = .ok () S' ∧ I xs.length S' := by
  have key : ∀ (ys : List D) (i : Nat) (S : Store), xs.drop i = ys → i + ys.length = xs.length → I i S → ∃ S', loopC src f n ys S = .ok () S' ∧ I xs.length S' := by
    intro ys
    induction ys with
    | nil =>
      intro i S hd hl hI
      have e : i = xs.length := by simpa using hl
      subst e
      refine ⟨S, ?_, hI⟩
      show (if src.ok S = true then Out.ok () S else .bad) = _
      rw [if_pos (last S hI)]
    | cons y ys ih =>
      intro i S hd hl hI
      have hy : xs[i]? = some y := by
        have : (xs.drop i)[0]? = some y := by rw [hd]; rfl
        simpa using this
      obtain ⟨h1, S', h2, h3⟩ := step i y S hI hy
      rw [loopC_cons h1, h2, bind_ok]
      refine ih (i + 1) S' ?_ (by simp only [List.length_cons] at hl; omega) h3
      rw [← List.drop_drop, hd]
      rfl
  exact key xs 0 S (by simp) (by simp) h0
theorem loopF_all {src : Src} {f : D → Env → Store → OutS} {xs : List D} {ρ : Env} {S : Store} (I : Nat → Env → Store → Prop) (h0 : I 0 ρ S) (step : ∀ i x ρ S, I i ρ S → xs[i]? = some x → src.ok S = true ∧ ∃ ρ' S', (f x ρ S = .nx ρ' S' ∨ f x ρ S = .ct ρ' S') ∧ I (i + 1) ρ' S') (last : ∀ ρ S, I xs.length ρ S → src.ok S = true) :
    ∃ ρ' S', loopF src f xs ρ S = .nx ρ' S' ∧ I xs.length ρ' S' := by
  have key : ∀ (ys : List D) (i : Nat) (ρ : Env) (S : Store), xs.drop i = ys → i + ys.length = xs.length → I i ρ S → ∃ ρ' S', loopF src f ys ρ S = .nx ρ' S' ∧ I xs.length ρ' S' := by
    intro ys
    induction ys with
    | nil =>
      intro i ρ S hd hl hI
      have e : i = xs.length := by simpa using hl
      subst e
      refine ⟨ρ, S, ?_, hI⟩
      show (if src.ok S = true then OutS.nx ρ S else .bad) = _
      rw [if_pos (last ρ S hI)]
    | cons y ys ih =>
      intro i ρ S hd hl hI
      have hy : xs[i]? = some y := by
        have : (xs.drop i)[0]? = some y := by rw [hd]; rfl
        simpa using this
      obtain ⟨h1, ρ', S', h2, h3⟩ := step i y ρ S hI hy
      have hn := ih (i + 1) ρ' S' (by rw [← List.drop_drop, hd]; rfl) (by simp only [List.length_cons] at hl; omega) h3
      obtain ⟨ρ2, S2, e1, e2⟩ := hn
      refine ⟨ρ2, S2, ?_, e2⟩
      unfold loopF
      rw [if_pos h1]
      rcases h2 with h2 | h2 <;> (rw [h2]; exact e1)
  exact key xs 0 ρ S (by simp) (by simp) h0
theorem loopW_all {c : Env → Store → Out Bool} {f : Env → Store → OutS} (I : Env → Store → Prop) (R : Env → Store → Prop) (μ : Env → Store → Nat) (step : ∀ ρ S, I ρ S → (∃ S1, c ρ S = .ok false S1 ∧ R ρ S1) ∨ ∃ S1 ρ' S', c ρ S = .ok true S1 ∧ (f ρ S1 = .nx ρ' S' ∨ f ρ S1 = .ct ρ' S') ∧ I ρ' S' ∧ μ ρ' S' < μ ρ S) :
    ∀ {n : Nat} {ρ : Env} {S : Store}, I ρ S → μ ρ S < n → ∃ ρ' S', loopW c f n ρ S = .nx ρ' S' ∧ R ρ' S' := by
  intro n
  induction n with
  | zero => intro ρ S _ h; omega
  | succ n ih =>
    intro ρ S hI hm
    rcases step ρ S hI with ⟨S1, h1, h2⟩ | ⟨S1, ρ', S', h1, h2, h3, h4⟩
    · refine ⟨ρ, S1, ?_, h2⟩
      unfold loopW
      rw [h1]
      rfl
    · obtain ⟨ρ2, S2, e1, e2⟩ := ih h3 (by omega)
      refine ⟨ρ2, S2, ?_, e2⟩
      unfold loopW
      rw [h1, bindS_ok, if_pos rfl]
      rcases h2 with h2 | h2 <;> (rw [h2]; exact e1)
/-- a comprehension that leaves the store as it is -/
theorem loopC_pure {src : Src} {f : D → Store → Out (Option D)} {xs : List D} {S : Store} (g : D → Option D) (hz : xs.length < sizeLine) (hs : ∀ acc, src.ok (S ++ [.lst acc]) = true) (hf : ∀ x ∈ xs, ∀ acc, ∃ T, f x (S ++ [.lst acc]) = .ok (g x) (S ++ [.lst acc] ++ T)) (hc : ∀ x ∈ xs, ∀ d, g x = some d → d.cl S.length = true) :
    loopC src f S.length xs (S ++ [.lst []]) = .ok () (S ++ [.lst (xs.filterMap g)]) := by
  have mono : ∀ (d : D), d.cl S.length = true → d.cl (S.length + 1) = true := by
    intro d
    exact D.cl_mono (Nat.le_succ _)
  have key : ∀ (ys : List D) (acc : List D), acc.length + ys.length < sizeLine → (∀ x ∈ ys, x ∈ xs) → loopC src f S.length ys (S ++ [.lst acc]) = .ok () (S ++ [.lst (acc ++ ys.filterMap g)]) := by
    intro ys
    induction ys with
    | nil =>
      intro acc _ _
      show (if src.ok (S ++ [.lst acc]) = true then Out.ok () (S ++ [.lst acc]) else .bad) = _
      rw [if_pos (hs acc)]
      simp
    | cons y ys ih =>
      intro acc hl hm
      have hy := hm y List.mem_cons_self
      obtain ⟨T, hT⟩ := hf y hy acc
      rw [loopC_cons (hs acc)]
      simp only [List.length_cons] at hl
      cases hg : g y with
      | none =>
        have : oneC f S.length y (S ++ [.lst acc]) = .ok () (S ++ [.lst acc]) := by
          unfold oneC
          rw [hT, hg]
          show (gc (S ++ [.lst acc]) .non (S ++ [.lst acc] ++ T)).bind _ = _
          rw [gc_drop rfl]
          rfl
        rw [this, bind_ok, ih acc (by omega) fun x hx => hm x (List.mem_cons_of_mem _ hx), List.filterMap_cons, hg]
      | some d =>
        have : oneC f S.length y (S ++ [.lst acc]) = .ok () (S ++ [.lst (acc ++ [d])]) := by
          unfold oneC
          rw [hT, hg]
          show (gc (S ++ [.lst acc]) d (S ++ [.lst acc] ++ T)).bind _ = _
          rw [gc_drop (by rw [List.length_append]; exact mono d (hc y hy d hg)), bind_ok]
          simp only [get_app0, List.getElem?_cons_zero]
          rw [if_pos (by omega)]
          simp
        rw [this, bind_ok, ih (acc ++ [d]) (by rw [List.length_append, List.length_singleton]; omega) fun x hx => hm x (List.mem_cons_of_mem _ hx), List.filterMap_cons, hg]
        simp
  have := key xs [] (by simpa using hz) fun x hx => hx
  simpa using this

/-! ### what a step keeps -/
theorem keepC_of {n : Nat} : ∀ {T S : Store}, T.length ≤ S.length → (∀ (i : Nat) (c : Cell), T[i]? = some c → S[i]? = some c ∨ c.cl n = true) → keepC n T S = true
  | [], _, _, _ => rfl
  | _ :: _, [], h, _ => by simp at h
  | c :: T, c0 :: S, h, k => by
    show ((decide (c = c0) || c.cl n) && keepC n T S) = true
    rw [keepC_of (by simpa using h) fun i c hc => k (i + 1) c (by simpa using hc)]
    rcases k 0 c rfl with z | z
    · have : c0 = c := by simpa using z
      simp [this]
    · simp [z]
theorem gc_keep {S S' T : Store} {d : D} (hl : S'.length = S.length) (hk : ∀ (i : Nat) (c : Cell), S'[i]? = some c → S[i]? = some c ∨ c.cl S.length = true) (hd : d.cl S.length = true) : gc S d (S' ++ T) = .ok d S' := by
  unfold gc
  have e : (S' ++ T).take S.length = S' := by rw [← hl, List.take_left]
  rw [e, keepC_of (Nat.le_of_eq hl) hk, if_pos rfl, if_pos hd]
theorem gc_keepN {S S' T : Store} {j : Nat} {c' : Cell} (hl : S'.length = S.length) (hk : ∀ (i : Nat) (c : Cell), S'[i]? = some c → S[i]? = some c ∨ c.cl S.length = true) (h : T[j]? = some c') (hc' : c'.cl S.length = true) : gc S (.loc (S.length + j)) (S' ++ T) = .ok (.loc S.length) (S' ++ [c']) := by
  have e : (S' ++ T).take S.length = S' := by rw [← hl, List.take_left]
  have e2 : (S' ++ T)[S.length + j]? = some c' := by
    rw [← hl, get_app]
    exact h
  have n : ¬ (D.loc (S.length + j)).cl S.length = true := fun z => by
    have := of_decide_eq_true (p := S.length + j < S.length) z
    omega
  unfold gc
  rw [e, keepC_of (Nat.le_of_eq hl) hk, if_pos rfl, if_neg n]
  simp only [e2, if_pos hc']
theorem set_self {S : Store} {s : Nat} {c : Cell} (h : S[s]? = some c) : S.set s c = S := by
  refine List.ext_getElem? fun i => ?_
  by_cases e : s = i
  · subst e
    rw [List.getElem?_set_self (List.getElem?_eq_some_iff.mp h).1, h]
  · rw [List.getElem?_set_ne e]
theorem set_app {S T : Store} {s : Nat} {c : Cell} (h : s < S.length) : (S ++ T).set s c = S.set s c ++ T := List.set_append_left s c h
theorem set_new {S T : Store} {j : Nat} {c : Cell} : (S ++ T).set (S.length + j) c = S ++ T.set j c := by
  rw [List.set_append_right _ _ (by omega)]
  congr 2
  omega
theorem set_new0 {S T : Store} {c : Cell} : (S ++ T).set S.length c = S ++ T.set 0 c := set_new (j := 0)
theorem lenD_loc {S : Store} {n : Nat} {xs : List D} (h : S[n]? = some (.lst xs)) : lenD S (.loc n) = some xs.length := by
  simp only [lenD, h]
theorem pop_ok {S : Store} {n i : Nat} {xs : List D} {d : D} (h : S[n]? = some (.lst xs)) (hd : xs[i]? = some d) (hi : i < 2 ^ 62) : bmD .popAt (.loc n) [.int (i : Nat)] S = .ok d (S.set n (.lst (xs.eraseIdx i))) := by
  have hl := (List.getElem?_eq_some_iff.mp hd).1
  simp only [bmD, lstDo, h, ixN_nat, hl, if_true, hd]
  rw [if_pos (by omega)]
theorem cls_mem {n : Nat} : ∀ {xs : List D}, D.cls n xs = true ↔ ∀ x ∈ xs, x.cl n = true
  | [] => by simp [D.cls]
  | x :: xs => by simp [D.cls, cls_mem (xs := xs)]

/-! ### things by place -/
section
variable {S : Store} {n : Nat} {d : D} {xs : List D} {ks : List Key} {kvs : List (Key × D)} {lk : Bool} {x : Str} {i : Int}
theorem nin_set (h : S[n]? = some (.set ks)) : cmpD .NotIn (.str x) (.loc n) S = some (!hasK (.inr x) ks) := by simp [cmpD, inD, h, D.key?]
theorem in_set (h : S[n]? = some (.set ks)) : cmpD .In (.str x) (.loc n) S = some (hasK (.inr x) ks) := by simp [cmpD, inD, h, D.key?]
theorem nin_dct (h : S[n]? = some (.dct lk kvs)) : cmpD .NotIn (.str x) (.loc n) S = some (!(lookA (.inr x) kvs).isSome) := by simp [cmpD, inD, h, D.key?]
theorem in_dct (h : S[n]? = some (.dct lk kvs)) : cmpD .In (.str x) (.loc n) S = some (lookA (.inr x) kvs).isSome := by simp [cmpD, inD, h, D.key?]
theorem addK_ok (h : S[n]? = some (.set ks)) : bmK .add (.loc n) S = true := by simp [bmK, h]
theorem addD_ok (h : S[n]? = some (.set ks)) (hz : ks.length + 1 < 1000) : bmD .add (.loc n) [.str x] S = .ok .non (S.set n (.set (addK (.inr x) ks))) := by simp [bmD, h, D.key?, hz]
theorem appK_ok (h : S[n]? = some (.lst xs)) : bmK .append (.loc n) S = true := by simp [bmK, h]
theorem appD_ok (h : S[n]? = some (.lst xs)) (hz : xs.length < sizeLine) : bmD .append (.loc n) [d] S = .ok .non (S.set n (.lst (xs ++ [d]))) := by
  simp only [bmD, lstDo, h]
  rw [if_pos hz]
theorem tup_loc (h : S[n]? = some (.lst xs)) : bfD .tuple [.loc n] S = .ok (.tup xs) S := by simp [bfD, seqOf, lstAt, h]
theorem list_loc (h : S[n]? = some (.lst xs)) : bfD .list [.loc n] S = .ok (.loc S.length) (S ++ [.lst xs]) := by simp [bfD, seqOf, lstAt, h]
theorem list_tup : bfD .list [.tup xs] S = .ok (.loc S.length) (S ++ [.lst xs]) := by simp [bfD, seqOf]
theorem tup_tup : bfD .tuple [.tup xs] S = .ok (.tup xs) S := by simp [bfD, seqOf]
theorem len_loc (h : S[n]? = some (.lst xs)) : bfD .len [.loc n] S = .ok (.int xs.length) S := by simp [lenD_loc h]
end
/-- strings, as data -/
def sd (l : List Str) : List D := l.map D.str
def hasS (x : Str) (l : List Str) : Bool := l.any fun y => decide (y = x)
theorem hasK_str {x : Str} : ∀ {l : List Str}, hasK (.inr x) (l.map Sum.inr) = hasS x l
  | [] => rfl
  | y :: l => by
    have i := hasK_str (x := x) (l := l)
    unfold hasK hasS at *
    simp only [List.map_cons, List.any_cons, i]
    congr 1
    by_cases e : y = x
    · simp [e]
    · simp [e]
theorem hasS_iff {x : Str} {l : List Str} : hasS x l = true ↔ x ∈ l := by
  unfold hasS
  rw [List.any_eq_true]
  constructor
  · rintro ⟨y, hy, e⟩
    exact of_decide_eq_true e ▸ hy
  · exact fun h => ⟨x, h, decide_eq_true rfl⟩
end Iv

set_option maxRecDepth 100000
namespace Iv
open PySem
abbrev i_is_name : Nat := 12
def f_is_name : FDef := ⟨1, 2, .cons (.ife (.not (.chn .LtE .LtE (.con (.int 1)) (.bf .len (.cons (.var 0) (.nil))) (.glo "MOST_LETTERS" (.int 6)))) (.cons (.ret (.some (.con (.bl false)))) (.nil)) (.nil)) (.cons (.ret (.some (.and (.or (.cmp .In (.ix (.var 0) (.con (.int 0))) (.glo "UPPER" (.str "ABCDEFGHIJKLMNOPQRSTUVWXYZ"))) (.one (.cmp .In (.ix (.var 0) (.con (.int 0))) (.glo "LOWER" (.str "abcdefghijklmnopqrstuvwxyz"))))) (.one (.bf .all (.cons (.lc (.cmp .In (.var 1) (.glo "LOWER" (.str "abcdefghijklmnopqrstuvwxyz"))) (.nm 1) (.val (.slc (.var 0) (.some (.con (.int 1))) (.none))) (.none)) (.nil))))))) (.nil))⟩
abbrev i_check_floor_2 : Nat := 227
def f_check_floor_2 : FDef := ⟨1, 7, .cons (.ife (.or (.cmp .Eq (.bf .len (.cons (.var 0) (.nil))) (.con (.int 0))) (.one (.cmp .Eq (.bf .len (.cons (.ix (.var 0) (.con (.int 0))) (.nil))) (.con (.int 0))))) (.cons (.rse 1 ["row", "column"] (.cons (.con (.int 0)) (.cons (.con (.int 0)) (.nil)))) (.nil)) (.nil)) (.cons (.asg (.nm 1) (.bf .len (.cons (.ix (.var 0) (.con (.int 0))) (.nil)))) (.cons (.asg (.nm 2) (.set0)) (.cons (.for_ (.tup (.cons (.nm 3) (.cons (.nm 4) (.nil)))) (.enum (.var 0)) (.cons (.for_ (.nm 5) (.range (.cons (.bf .max2 (.cons (.var 1) (.cons (.bf .len (.cons (.var 4) (.nil))) (.nil)))) (.nil))) (.cons (.asg (.nm 6) (.or (.cmp .GtE (.var 3) (.glo "MOST_LINES" (.int 12))) (.or (.cmp .GtE (.var 5) (.glo "MOST_LINES" (.int 12))) (.or (.cmp .GtE (.var 5) (.var 1)) (.one (.cmp .GtE (.var 5) (.bf .len (.cons (.var 4) (.nil))))))))) (.cons (.ife (.or (.var 6) (.or (.not (.call i_is_name (.cons (.ix (.var 4) (.var 5)) (.nil)))) (.one (.cmp .In (.ix (.var 4) (.var 5)) (.var 2))))) (.cons (.rse 1 ["row", "column"] (.cons (.var 3) (.cons (.var 5) (.nil)))) (.nil)) (.nil)) (.cons (.expr (.bm .add (.var 2) (.cons (.ix (.var 4) (.var 5)) (.nil)))) (.nil))))) (.nil))) (.nil))))⟩
abbrev i_locate_2 : Nat := 228
def f_locate_2 : FDef := ⟨2, 4, .cons (.for_ (.tup (.cons (.nm 2) (.cons (.nm 3) (.nil)))) (.enum (.var 0)) (.cons (.ife (.cmp .In (.var 1) (.var 3)) (.cons (.ret (.some (.tup (.cons (.var 2) (.cons (.bm .index (.var 3) (.cons (.var 1) (.nil))) (.nil)))))) (.nil)) (.nil)) (.nil))) (.cons (.rse 2 ["name"] (.cons (.var 1) (.nil))) (.nil))⟩
abbrev i__law_source : Nat := 3
def f__law_source : FDef := ⟨2, 3, .cons (.asg (.nm 2) (.con (.int 0))) (.cons (.ife (.cmp .Lt (.var 1) (.bf .len (.cons (.var 0) (.nil)))) (.cons (.asg (.nm 2) (.ix (.var 0) (.var 1))) (.nil)) (.nil)) (.cons (.ret (.some (.lst (.cons (.bf .max2 (.cons (.con (.int 0)) (.cons (.bin .Sub (.var 2) (.bin .Pow (.con (.int 10)) (.con (.int 18)))) (.nil)))) (.cons (.bin .Add (.bin .Mod (.var 2) (.bin .Add (.bin .Pow (.con (.int 10)) (.con (.int 37))) (.con (.int 43)))) (.bin .Mult (.con (.int 1299709)) (.var 1))) (.cons (.con (.int 0)) (.nil))))))) (.nil)))⟩
abbrev i__law_draw : Nat := 4
def f__law_draw : FDef := ⟨2, 4, .cons (.ife (.cmp .Gt (.ix (.var 0) (.con (.int 0))) (.con (.int 0))) (.cons (.asg (.nm 2) (.bin .Mod (.ix (.var 0) (.con (.int 0))) (.var 1))) (.cons (.asg (.sub (.var 0) (.con (.int 0))) (.bin .FloorDiv (.ix (.var 0) (.con (.int 0))) (.var 1))) (.cons (.ret (.some (.var 2))) (.nil)))) (.nil)) (.cons (.asg (.sub (.var 0) (.con (.int 2))) (.bin .Add (.ix (.var 0) (.con (.int 2))) (.con (.int 1)))) (.cons (.asg (.nm 3) (.bin .Mod (.bin .Pow (.bin .Add (.ix (.var 0) (.con (.int 1))) (.bin .Mult (.con (.int 15485863)) (.ix (.var 0) (.con (.int 2))))) (.con (.int 3))) (.bin .Add (.bin .Pow (.con (.int 10)) (.con (.int 35))) (.con (.int 69))))) (.cons (.asg (.nm 3) (.bin .Mod (.bin .Pow (.bin .Add (.var 3) (.bin .Mult (.con (.int 32452843)) (.ix (.var 0) (.con (.int 2))))) (.con (.int 3))) (.bin .Add (.bin .Pow (.con (.int 10)) (.con (.int 32))) (.con (.int 49))))) (.cons (.ret (.some (.bin .Mod (.bin .FloorDiv (.var 3) (.con (.int 8191))) (.var 1)))) (.nil)))))⟩
abbrev i__law_shuffled : Nat := 5
def f__law_shuffled : FDef := ⟨2, 4, .cons (.asg (.nm 2) (.bf .list (.cons (.var 1) (.nil)))) (.cons (.ret (.some (.lc (.bm .popAt (.var 2) (.cons (.call i__law_draw (.cons (.var 0) (.cons (.bf .len (.cons (.var 2) (.nil))) (.nil)))) (.nil))) (.nm 3) (.range (.cons (.bf .len (.cons (.var 2) (.nil))) (.nil))) (.none)))) (.nil))⟩
abbrev i__law_name : Nat := 16
def f__law_name : FDef := ⟨3, 7, .cons (.asg (.nm 3) (.con (.str "abcdefghijklmnopqrstuvwxyz"))) (.cons (.asg (.nm 4) (.ix (.var 3) (.bin .Mod (.bin .Add (.var 2) (.var 1)) (.con (.int 26))))) (.cons (.asg (.nm 5) (.ix (.var 3) (.bin .Mod (.bin .Add (.bin .FloorDiv (.var 2) (.con (.int 26))) (.bin .Mult (.con (.int 2)) (.var 1))) (.con (.int 26))))) (.cons (.asg (.nm 6) (.lst (.cons (.bin .Add (.var 4) (.bin .Mult (.var 5) (.bf .int (.cons (.cmp .Gt (.var 2) (.con (.int 25))) (.nil))))) (.cons (.bin .Add (.var 5) (.var 4)) (.cons (.bin .Add (.bin .Add (.con (.str "qq")) (.var 5)) (.var 4)) (.cons (.bin .Add (.bin .Add (.var 4) (.var 5)) (.con (.str "zz"))) (.nil))))))) (.cons (.asg (.nm 6) (.bin .Add (.var 6) (.lst (.cons (.bin .Add (.bin .Add (.var 4) (.var 5)) (.bin .Mult (.var 5) (.bin .Mod (.var 2) (.con (.int 3))))) (.cons (.bin .Add (.bin .Add (.var 5) (.var 4)) (.con (.str "xxxx"))) (.nil)))))) (.cons (.ret (.some (.ix (.var 6) (.var 0)))) (.nil))))))⟩
abbrev i__law_pattern : Nat := 17
def f__law_pattern : FDef := ⟨3, 13, .cons (.asg (.nm 3) (.call i__law_draw (.cons (.var 0) (.cons (.con (.int 9)) (.nil))))) (.cons (.asg (.nm 4) (.lst (.nil))) (.cons (.for_ (.nm 5) (.range (.cons (.var 1) (.nil))) (.cons (.asg (.nm 4) (.bin .Add (.var 4) (.lc (.tup (.cons (.var 5) (.cons (.var 10) (.nil)))) (.nm 10) (.range (.cons (.var 2) (.nil))) (.none)))) (.nil))) (.cons (.ife (.cmp .Lt (.var 3) (.con (.int 2))) (.cons (.ret (.some (.var 4))) (.nil)) (.nil)) (.cons (.ife (.cmp .Eq (.var 3) (.con (.int 2))) (.cons (.ret (.some (.lst (.nil)))) (.nil)) (.nil)) (.cons (.ife (.cmp .Eq (.var 3) (.con (.int 3))) (.cons (.ret (.some (.lst (.cons (.ix (.var 4) (.call i__law_draw (.cons (.var 0) (.cons (.bf .len (.cons (.var 4) (.nil))) (.nil))))) (.nil))))) (.nil)) (.nil)) (.cons (.ife (.cmp .Eq (.var 3) (.con (.int 4))) (.cons (.asg (.nm 6) (.call i__law_shuffled (.cons (.var 0) (.cons (.lrange (.cons (.var 1) (.nil))) (.nil))))) (.cons (.asg (.nm 7) (.call i__law_shuffled (.cons (.var 0) (.cons (.lrange (.cons (.var 2) (.nil))) (.nil))))) (.cons (.asg (.nm 8) (.bin .Add (.con (.int 1)) (.call i__law_draw (.cons (.var 0) (.cons (.bf .min2 (.cons (.var 1) (.cons (.var 2) (.nil)))) (.nil)))))) (.cons (.ret (.some (.lc (.tup (.cons (.ix (.var 6) (.var 11)) (.cons (.ix (.var 7) (.var 11)) (.nil)))) (.nm 11) (.range (.cons (.var 8) (.nil))) (.none)))) (.nil))))) (.nil)) (.cons (.ife (.cmp .Eq (.var 3) (.con (.int 5))) (.cons (.asg (.nm 9) (.call i__law_draw (.cons (.var 0) (.cons (.var 1) (.nil))))) (.cons (.ret (.some (.lc (.var 12) (.nm 12) (.val (.var 4)) (.some (.cmp .Eq (.ix (.var 12) (.con (.int 0))) (.var 9)))))) (.nil))) (.nil)) (.cons (.ife (.cmp .Eq (.var 3) (.con (.int 6))) (.cons (.asg (.nm 9) (.call i__law_draw (.cons (.var 0) (.cons (.var 2) (.nil))))) (.cons (.ret (.some (.lc (.var 12) (.nm 12) (.val (.var 4)) (.some (.cmp .Eq (.ix (.var 12) (.con (.int 1))) (.var 9)))))) (.nil))) (.nil)) (.cons (.ife (.cmp .Eq (.var 3) (.con (.int 7))) (.cons (.expr (.bm .popAt (.var 4) (.cons (.call i__law_draw (.cons (.var 0) (.cons (.bf .len (.cons (.var 4) (.nil))) (.nil)))) (.nil)))) (.cons (.ret (.some (.var 4))) (.nil))) (.nil)) (.cons (.ret (.some (.lc (.var 12) (.nm 12) (.val (.var 4)) (.some (.cmp .Eq (.call i__law_draw (.cons (.var 0) (.cons (.con (.int 3)) (.nil)))) (.con (.int 0))))))) (.nil)))))))))))⟩
abbrev i__law_named : Nat := 18
def f__law_named : FDef := ⟨3, 12, .cons (.asg (.nm 3) (.call i__law_pattern (.cons (.var 0) (.cons (.var 1) (.cons (.var 2) (.nil)))))) (.cons (.asg (.nm 4) (.call i__law_draw (.cons (.var 0) (.cons (.con (.int 6)) (.nil))))) (.cons (.asg (.nm 5) (.call i__law_draw (.cons (.var 0) (.cons (.con (.int 26)) (.nil))))) (.cons (.asg (.nm 6) (.call i__law_shuffled (.cons (.var 0) (.cons (.lrange (.cons (.bin .Mult (.var 1) (.var 2)) (.nil))) (.nil))))) (.cons (.asg (.nm 7) (.lst (.nil))) (.cons (.for_ (.nm 8) (.range (.cons (.var 1) (.nil))) (.cons (.asg (.nm 9) (.lst (.nil))) (.cons (.for_ (.nm 10) (.range (.cons (.var 2) (.nil))) (.cons (.asg (.nm 11) (.call i__law_name (.cons (.var 4) (.cons (.var 5) (.cons (.ix (.var 6) (.bin .Add (.bin .Mult (.var 8) (.var 2)) (.var 10))) (.nil)))))) (.cons (.ife (.cmp .In (.tup (.cons (.var 8) (.cons (.var 10) (.nil)))) (.var 3)) (.cons (.asg (.nm 11) (.bin .Add (.bm .upper (.ix (.var 11) (.con (.int 0))) (.nil)) (.slc (.var 11) (.some (.con (.int 1))) (.none)))) (.nil)) (.nil)) (.cons (.expr (.bm .append (.var 9) (.cons (.var 11) (.nil)))) (.nil))))) (.cons (.expr (.bm .append (.var 7) (.cons (.bf .tuple (.cons (.var 9) (.nil))) (.nil)))) (.nil))))) (.cons (.ret (.some (.bf .tuple (.cons (.var 7) (.nil))))) (.nil)))))))⟩
abbrev i__law_floor : Nat := 19
def f__law_floor : FDef := ⟨2, 4, .cons (.asg (.nm 2) (.bin .Add (.con (.int 1)) (.call i__law_draw (.cons (.var 0) (.cons (.bf .min2 (.cons (.con (.int 12)) (.cons (.var 1) (.nil)))) (.nil)))))) (.cons (.asg (.nm 3) (.bin .Add (.con (.int 1)) (.call i__law_draw (.cons (.var 0) (.cons (.bf .min2 (.cons (.con (.int 12)) (.cons (.bin .FloorDiv (.var 1) (.var 2)) (.nil)))) (.nil)))))) (.cons (.ret (.some (.call i__law_named (.cons (.var 0) (.cons (.var 2) (.cons (.var 3) (.nil))))))) (.nil)))⟩
abbrev i__law_is_name : Nat := 57
def f__law_is_name : FDef := ⟨1, 3, .cons (.asg (.nm 1) (.con (.str "abcdefghijklmnopqrstuvwxyz"))) (.cons (.ife (.or (.cmp .Lt (.bf .len (.cons (.var 0) (.nil))) (.con (.int 1))) (.or (.cmp .Gt (.bf .len (.cons (.var 0) (.nil))) (.con (.int 6))) (.one (.cmp .NotIn (.ix (.var 0) (.con (.int 0))) (.bin .Add (.var 1) (.con (.str "ABCDEFGHIJKLMNOPQRSTUVWXYZ"))))))) (.cons (.ret (.some (.con (.bl false)))) (.nil)) (.nil)) (.cons (.ret (.some (.cmp .Eq (.lc (.var 2) (.nm 2) (.val (.slc (.var 0) (.some (.con (.int 1))) (.none))) (.some (.cmp .NotIn (.var 2) (.var 1)))) (.lst (.nil))))) (.nil)))⟩
abbrev i__law_wrong_2 : Nat := 69
def f__law_wrong_2 : FDef := ⟨1, 4, .cons (.ife (.or (.cmp .Eq (.bf .len (.cons (.var 0) (.nil))) (.con (.int 0))) (.one (.cmp .Eq (.bf .len (.cons (.ix (.var 0) (.con (.int 0))) (.nil))) (.con (.int 0))))) (.cons (.ret (.some (.tup (.cons (.con (.int 0)) (.cons (.con (.int 0)) (.nil)))))) (.nil)) (.nil)) (.cons (.asg (.nm 1) (.lst (.nil))) (.cons (.for_ (.nm 2) (.range (.cons (.bf .len (.cons (.var 0) (.nil))) (.nil))) (.cons (.for_ (.nm 3) (.range (.cons (.bf .max2 (.cons (.bf .len (.cons (.ix (.var 0) (.con (.int 0))) (.nil))) (.cons (.bf .len (.cons (.ix (.var 0) (.var 2)) (.nil))) (.nil)))) (.nil))) (.cons (.ife (.or (.cmp .Gt (.var 2) (.con (.int 11))) (.or (.cmp .Gt (.var 3) (.con (.int 11))) (.or (.cmp .GtE (.var 3) (.bf .len (.cons (.ix (.var 0) (.con (.int 0))) (.nil)))) (.one (.cmp .GtE (.var 3) (.bf .len (.cons (.ix (.var 0) (.var 2)) (.nil)))))))) (.cons (.ret (.some (.tup (.cons (.var 2) (.cons (.var 3) (.nil)))))) (.nil)) (.nil)) (.cons (.ife (.or (.not (.call i__law_is_name (.cons (.ix (.ix (.var 0) (.var 2)) (.var 3)) (.nil)))) (.one (.cmp .In (.ix (.ix (.var 0) (.var 2)) (.var 3)) (.var 1)))) (.cons (.ret (.some (.tup (.cons (.var 2) (.cons (.var 3) (.nil)))))) (.nil)) (.nil)) (.cons (.expr (.bm .append (.var 1) (.cons (.ix (.ix (.var 0) (.var 2)) (.var 3)) (.nil)))) (.nil))))) (.nil))) (.cons (.ret (.some (.con .non))) (.nil))))⟩
abbrev i__law_changed_2 : Nat := 70
def f__law_changed_2 : FDef := ⟨2, 8, .cons (.asg (.nm 2) (.lc (.bf .list (.cons (.var 7) (.nil))) (.nm 7) (.val (.var 1)) (.none))) (.cons (.asg (.nm 3) (.call i__law_draw (.cons (.var 0) (.cons (.bf .len (.cons (.var 2) (.nil))) (.nil))))) (.cons (.asg (.nm 4) (.call i__law_draw (.cons (.var 0) (.cons (.con (.int 9)) (.nil))))) (.cons (.asg (.nm 5) (.ix (.lst (.cons (.con (.str "")) (.cons (.con (.str "a1")) (.cons (.con (.str "aB")) (.cons (.con (.str "AB")) (.cons (.con (.str "a b")) (.cons (.con (.str "abcdefg")) (.cons (.con (.str "Abcdefg")) (.cons (.con (.str "a\n")) (.cons (.con (.str "-a")) (.cons (.con (.str "zz")) (.cons (.con (.str "Zz")) (.cons (.con (.str "ABCDEF")) (.nil)))))))))))))) (.call i__law_draw (.cons (.var 0) (.cons (.con (.int 12)) (.nil)))))) (.cons (.ife (.cmp .Eq (.ix (.var 2) (.var 3)) (.lst (.nil))) (.cons (.asg (.sub (.var 2) (.var 3)) (.lst (.cons (.var 5) (.nil)))) (.nil)) (.cons (.ife (.cmp .Lt (.var 4) (.con (.int 3))) (.cons (.asg (.sub (.ix (.var 2) (.var 3)) (.call i__law_draw (.cons (.var 0) (.cons (.bf .len (.cons (.ix (.var 2) (.var 3)) (.nil))) (.nil))))) (.var 5)) (.nil)) (.cons (.ife (.cmp .Eq (.var 4) (.con (.int 3))) (.cons (.asg (.nm 6) (.ix (.var 2) (.call i__law_draw (.cons (.var 0) (.cons (.bf .len (.cons (.var 2) (.nil))) (.nil)))))) (.cons (.asg (.sub (.ix (.var 2) (.var 3)) (.call i__law_draw (.cons (.var 0) (.cons (.bf .len (.cons (.ix (.var 2) (.var 3)) (.nil))) (.nil))))) (.ix (.bin .Add (.var 6) (.lst (.cons (.con (.str "q")) (.nil)))) (.call i__law_draw (.cons (.var 0) (.cons (.bin .Add (.bf .len (.cons (.var 6) (.nil))) (.con (.int 1))) (.nil)))))) (.nil))) (.cons (.ife (.cmp .Eq (.var 4) (.con (.int 4))) (.cons (.expr (.bm .popAt (.ix (.var 2) (.var 3)) (.cons (.call i__law_draw (.cons (.var 0) (.cons (.bf .len (.cons (.ix (.var 2) (.var 3)) (.nil))) (.nil)))) (.nil)))) (.nil)) (.cons (.ife (.cmp .Eq (.var 4) (.con (.int 5))) (.cons (.expr (.bm .insert (.ix (.var 2) (.var 3)) (.cons (.call i__law_draw (.cons (.var 0) (.cons (.bin .Add (.bf .len (.cons (.ix (.var 2) (.var 3)) (.nil))) (.con (.int 1))) (.nil)))) (.cons (.var 5) (.nil))))) (.nil)) (.cons (.ife (.cmp .Eq (.var 4) (.con (.int 6))) (.cons (.expr (.bm .popAt (.var 2) (.cons (.var 3) (.nil)))) (.nil)) (.cons (.ife (.cmp .Eq (.var 4) (.con (.int 7))) (.cons (.expr (.bm .insert (.var 2) (.cons (.var 3) (.cons (.lst (.nil)) (.nil))))) (.nil)) (.cons (.expr (.bm .append (.var 2) (.cons (.bin .Mult (.lst (.cons (.var 5) (.nil))) (.bf .len (.cons (.ix (.var 2) (.var 3)) (.nil)))) (.nil)))) (.nil))) (.nil))) (.nil))) (.nil))) (.nil))) (.nil))) (.nil))) (.cons (.ret (.some (.bf .tuple (.cons (.lc (.bf .tuple (.cons (.var 7) (.nil))) (.nm 7) (.val (.var 2)) (.none)) (.nil))))) (.nil))))))⟩
abbrev i__law_right : Nat := 229
def f__law_right : FDef := ⟨1, 4, .cons (.asg (.nm 1) (.call i__law_wrong_2 (.cons (.var 0) (.nil)))) (.cons (.asg (.nm 2) (.con .non)) (.cons (.try_ (.expr (.call i_check_floor_2 (.cons (.var 0) (.nil)))) (some 3) 0 [1, 2] (.cons (.asg 2 (.at_ (.con (.int (-1))))) (.cons (.ife (.and (.isi 1) (.not (.ism [8, 2, 9]))) (.cons (.asg 2 (.tup [.fld "row", .fld "column"])) (.nil))) (.nil)))) (.cons (.ret (.some (.cmp .Eq (.bf .repr (.cons (.var 2) (.nil))) (.bf .repr (.cons (.var 1) (.nil)))))) (.nil))))⟩
abbrev i__law_unknown : Nat := 230
def f__law_unknown : FDef := ⟨2, 4, .cons (.asg (.nm 2) (.con .non)) (.cons (.try_ (.expr (.call i_locate_2 (.cons (.var 0) (.cons (.var 1) (.nil))))) (some 3) 2 [1, 2] (.cons (.asg 2 (.at_ (.fld "name"))) (.nil))) (.cons (.ret (.some (.var 2))) (.nil)))⟩
abbrev i_law_37 : Nat := 231
def f_law_37 : FDef := ⟨1, 12, .cons (.asg (.nm 1) (.con (.str "abcdefghijklmnopqrstuvwxyz"))) (.cons (.for_ (.nm 2) (.range (.cons (.bf .max2 (.cons (.con (.int 1)) (.cons (.bf .min2 (.cons (.con (.int 4)) (.cons (.bf .len (.cons (.var 0) (.nil))) (.nil)))) (.nil)))) (.nil))) (.cons (.asg (.nm 3) (.call i__law_source (.cons (.var 0) (.cons (.var 2) (.nil))))) (.cons (.asg (.nm 4) (.call i__law_floor (.cons (.var 3) (.cons (.con (.int 144)) (.nil))))) (.cons (.asg (.nm 5) (.call i__law_changed_2 (.cons (.var 3) (.cons (.var 4) (.nil))))) (.cons (.asg (.nm 6) (.lst (.cons (.var 4) (.cons (.var 5) (.cons (.tup (.nil)) (.cons (.tup (.cons (.tup (.nil)) (.nil))) (.cons (.tup (.cons (.tup (.nil)) (.cons (.tup (.cons (.con (.str "a")) (.nil))) (.nil)))) (.cons (.bin .Add (.var 5) (.tup (.cons (.tup (.nil)) (.nil)))) (.nil))))))))) (.cons (.ife (.cmp .NotEq (.var 5) (.tup (.nil))) (.cons (.expr (.bm .append (.var 6) (.cons (.call i__law_changed_2 (.cons (.var 3) (.cons (.var 5) (.nil)))) (.nil)))) (.nil)) (.nil)) (.cons (.asg (.nm 7) (.bf .tuple (.cons (.lc (.ix (.var 1) (.var 11)) (.nm 11) (.range (.cons (.bin .Add (.con (.int 12)) (.call i__law_draw (.cons (.var 3) (.cons (.con (.int 3)) (.nil))))) (.nil))) (.none)) (.nil)))) (.cons (.asg (.nm 6) (.bin .Add (.var 6) (.lst (.cons (.tup (.cons (.var 7) (.nil))) (.cons (.bf .tuple (.cons (.lc (.tup (.cons (.var 9) (.nil))) (.nm 9) (.val (.var 7)) (.none)) (.nil))) (.cons (.tup (.cons (.var 7) (.cons (.var 7) (.nil)))) (.cons (.bin .Add (.tup (.cons (.tup (.cons (.con (.str "z")) (.nil))) (.nil))) (.var 4)) (.nil)))))))) (.cons (.for_ (.nm 8) (.val (.var 6)) (.cons (.ife (.or (.not (.call i__law_right (.cons (.var 8) (.nil)))) (.one (.not (.call i__law_right (.cons (.var 8) (.nil)))))) (.cons (.ret (.some (.con (.bl false)))) (.nil)) (.nil)) (.nil))) (.cons (.ife (.or (.cmp .NotEq (.call i__law_unknown (.cons (.var 4) (.cons (.con (.str "zzzzzz")) (.nil)))) (.con (.str "zzzzzz"))) (.one (.cmp .NotEq (.call i__law_unknown (.cons (.var 4) (.cons (.con (.str "")) (.nil)))) (.con (.str ""))))) (.cons (.ret (.some (.con (.bl false)))) (.nil)) (.nil)) (.cons (.for_ (.nm 9) (.val (.ix (.var 4) (.con (.int 0)))) (.cons (.asg (.nm 10) (.bin .Add (.ix (.lst (.cons (.bm .lower (.ix (.var 9) (.con (.int 0))) (.nil)) (.cons (.bm .upper (.ix (.var 9) (.con (.int 0))) (.nil)) (.nil)))) (.bf .int (.cons (.cmp .Eq (.bm .lower (.ix (.var 9) (.con (.int 0))) (.nil)) (.ix (.var 9) (.con (.int 0)))) (.nil)))) (.slc (.var 9) (.some (.con (.int 1))) (.none)))) (.cons (.ife (.cmp .NotEq (.call i__law_unknown (.cons (.var 4) (.cons (.var 10) (.nil)))) (.var 10)) (.cons (.ret (.some (.con (.bl false)))) (.nil)) (.nil)) (.nil)))) (.nil)))))))))))) (.cons (.ret (.some (.con (.bl true)))) (.nil)))⟩
theorem ixD_rol {xs : List D} {i : Nat} {d : D} {S : Store} (h : xs[i]? = some d) : ixD (.rol xs) (.int i) S = some d := by
  show ixAt xs i = some d
  unfold ixAt L2.atI L2.ixN
  have hi := (List.getElem?_eq_some_iff.mp h).1
  rw [if_pos (by omega)]
  have hi' : (i : Int) < xs.length := by omega
  simp only [Int.toNat_natCast]
  rw [if_pos hi']
  exact h
theorem p18 : opI .Pow 10 18 = some 1000000000000000000 := by decide +kernel
theorem p37 : opI .Pow 10 37 = some 10000000000000000000000000000000000000 := by decide +kernel
theorem p35 : opI .Pow 10 35 = some 100000000000000000000000000000000000 := by decide +kernel
theorem p32 : opI .Pow 10 32 = some 100000000000000000000000000000000 := by decide +kernel
/-- the script's cell, drawn from: its numbers stay small, m: how often it was drawn from, at most -/
def SrcC (c : Cell) (m : Nat) : Prop := ∃ x y z : Int, c = .lst [.int x, .int y, .int z] ∧ 0 ≤ y ∧ y < 10 ^ 38 ∧ 0 ≤ z ∧ z ≤ m
theorem log_small {i : Int} (h : i.natAbs < 2 ^ 10000) : i.natAbs.log2 < 10001 := by
  by_cases z : i.natAbs = 0
  · rw [z]; decide
  · exact Nat.lt_succ_of_lt ((Nat.log2_lt z).mpr h)
theorem src_ok {Γ : Nat → Option FDef} {k : Nat} (h : Γ i__law_source = some f__law_source) (ns : List Int) (i : Nat) (hi : i < 100) (S : Store) :
    ∃ a b : Int, 0 ≤ b ∧ b < 10 ^ 38 ∧ callN Γ (k + 1) i__law_source [.rol (ns.map D.int), .int i] S = .ok (.loc S.length) (S ++ [.lst [.int a, .int b, .int 0]]) := by
  have hm : opI .Mult 1299709 (i : Int) = some (1299709 * i) := opi_mul (by
    have e : (1299709 : Int).natAbs.log2 < 10001 := log_small (by decide +kernel)
    have e2 : (i : Int).natAbs.log2 < 10001 := log_small (by
      have : (100 : Nat) < 2 ^ 10000 := Nat.lt_of_lt_of_le (by decide) (Nat.pow_le_pow_right (by decide) (show 7 ≤ 10000 by decide))
      simp only [Int.natAbs_natCast]; omega)
    omega)
  have key : ∀ cell : Int, 0 ≤ cell % 10000000000000000000000000000000000043 + 1299709 * i ∧ cell % 10000000000000000000000000000000000043 + 1299709 * i < 10 ^ 38 := fun cell => by
    have h1 := Int.emod_nonneg cell (show (10000000000000000000000000000000000043 : Int) ≠ 0 by decide)
    have h2 := Int.emod_lt_of_pos cell (show (0 : Int) < 10000000000000000000000000000000000043 by decide)
    omega
  have main : ∀ cell : Int, (if i < ns.length then ns[i]? else some 0) = some cell → callN Γ (k + 1) i__law_source [.rol (ns.map D.int), .int i] S = .ok (.loc S.length) (S ++ [.lst [.int (if 0 < cell - 1000000000000000000 then cell - 1000000000000000000 else 0), .int (cell % 10000000000000000000000000000000000043 + 1299709 * i), .int 0]]) := fun cell hc => by
    rw [callN_eq h rfl]
    by_cases c : i < ns.length
    · rw [if_pos c] at hc
      have hx : ns[i] = cell := by simpa [c] using hc
      subst hx
      simp [f__law_source, c, p18, p37, hm]
    · rw [if_neg c] at hc
      cases hc
      simp [f__law_source, c, p18, p37, hm]
  by_cases c : i < ns.length
  · exact ⟨_, _, (key _).1, (key _).2, main ns[i] (by rw [if_pos c]; exact List.getElem?_eq_getElem c)⟩
  · exact ⟨_, _, (key 0).1, (key 0).2, main 0 (by rw [if_neg c])⟩

theorem bits_small {i : Int} (h : 0 ≤ i) (h2 : i < 2 ^ 200) : Builtin.Int.intBits i ≤ 201 := by
  unfold Builtin.Int.intBits
  split
  · omega
  · rename_i z
    have z : i ≠ 0 := by simpa using z
    have := (Nat.log2_lt (n := i.natAbs) (k := 200) (by omega)).mpr (by omega)
    omega
theorem draw_ok {Γ : Nat → Option FDef} {k : Nat} (h : Γ i__law_draw = some f__law_draw) {S : Store} {s m : Nat} {c : Cell} (hs : S[s]? = some c) (hc : SrcC c m) (hm : m < 10 ^ 15) {b : Nat} (hb : 0 < b) (hb2 : b < 10 ^ 30) :
    ∃ r c', r < b ∧ SrcC c' (m + 1) ∧ callN Γ (k + 1) i__law_draw [.loc s, .int b] S = .ok (.int (r : Nat)) (S.set s c') := by
  obtain ⟨x, y, z, rfl, hy, hy2, hz, hz2⟩ := hc
  have st : ∀ c, (S.set s c)[s]? = some c := fun c => List.getElem?_set_self (List.getElem?_eq_some_iff.mp hs).1
  have em : ∀ i : Int, opI .Mod i b = some (i % b) := fun i => opi_mod (by omega)
  have lg : ∀ i : Int, 0 ≤ i → i < 2 ^ 200 → i.natAbs.log2 < 1000 := fun i h0 h1 => by
    by_cases z : i.natAbs = 0
    · rw [z]; decide
    · have := (Nat.log2_lt (k := 200) z).mpr (by omega)
      omega
  have ed : ∀ i : Int, opI .FloorDiv i b = some (i / b) := fun i => opi_fdiv (by omega) (by have := lg (b : Int) (by omega) (by omega); omega)
  have hr : ∀ i : Int, ∃ r : Nat, r < b ∧ i % (b : Int) = r := fun i => by
    have h1 := Int.emod_nonneg i (show (b : Int) ≠ 0 by omega)
    have h2 := Int.emod_lt_of_pos i (show (0 : Int) < b by omega)
    exact ⟨(i % (b : Int)).toNat, by omega, by omega⟩
  by_cases c : 0 < x
  · obtain ⟨r, r1, r2⟩ := hr x
    refine ⟨r, .lst [.int (x / b), .int y, .int z], r1, ⟨_, _, _, rfl, hy, hy2, hz, by omega⟩, ?_⟩
    rw [callN_eq h rfl]
    simp [f__law_draw, hs, st, c, em, ed, r2]
  · have m1 : opI .Mult 15485863 (z + 1) = some (15485863 * (z + 1)) := opi_mul (by have := lg 15485863 (by omega) (by omega); have := lg (z + 1) (by omega) (by omega); omega)
    have m2 : opI .Mult 32452843 (z + 1) = some (32452843 * (z + 1)) := opi_mul (by have := lg 32452843 (by omega) (by omega); have := lg (z + 1) (by omega) (by omega); omega)
    have q1 : opI .Pow (y + 15485863 * (z + 1)) 3 = some ((y + 15485863 * (z + 1)) ^ 3) := opi_pow (j := 3) (by have := bits_small (i := y + 15485863 * (z + 1)) (by omega) (by omega); omega)
    obtain ⟨a, ha⟩ : ∃ a, a = (y + 15485863 * (z + 1)) ^ 3 % 100000000000000000000000000000000069 := ⟨_, rfl⟩
    have a1 := Int.emod_nonneg ((y + 15485863 * (z + 1)) ^ 3) (show (100000000000000000000000000000000069 : Int) ≠ 0 by decide)
    have a2 := Int.emod_lt_of_pos ((y + 15485863 * (z + 1)) ^ 3) (show (0 : Int) < 100000000000000000000000000000000069 by decide)
    rw [← ha] at a1 a2
    have q2 : opI .Pow (a + 32452843 * (z + 1)) 3 = some ((a + 32452843 * (z + 1)) ^ 3) := opi_pow (j := 3) (by have := bits_small (i := a + 32452843 * (z + 1)) (by omega) (by omega); omega)
    have d1 : ∀ i : Int, opI .FloorDiv i 8191 = some (i / 8191) := fun i => opi_fdiv (by omega) (by decide +kernel)
    obtain ⟨r, r1, r2⟩ := hr ((a + 32452843 * (z + 1)) ^ 3 % 100000000000000000000000000000049 / 8191)
    refine ⟨r, .lst [.int x, .int y, .int (z + 1)], r1, ⟨_, _, _, rfl, hy, hy2, by omega, by omega⟩, ?_⟩
    rw [callN_eq h rfl]
    simp [f__law_draw, hs, st, c, em, ed, m1, m2, q1, p35, p32, opi_mod, ← ha, q2, d1, r2]
/-! ### shuffled -/
theorem erase_perm {d : D} : ∀ {xs : List D} {i : Nat}, xs[i]? = some d → (xs.eraseIdx i ++ [d]).Perm xs
  | [], _, h => by simp at h
  | x :: xs, 0, h => by
    cases h
    exact List.perm_append_comm
  | x :: xs, i + 1, h => (erase_perm (xs := xs) (i := i) (by simpa using h)).cons x
theorem shuf_ok {Γ : Nat → Option FDef} {k : Nat} (h : Γ i__law_shuffled = some f__law_shuffled) (h2 : Γ i__law_draw = some f__law_draw) {S : Store} {s m : Nat} {c : Cell} (hs : S[s]? = some c) (hc : SrcC c m) {d : D} {xs : List D} (hx : seqOf S d = some xs) (hcl : D.cls S.length xs = true) (hn : xs.length < 10 ^ 6) (hm : m + xs.length < 10 ^ 15) :
    ∃ ys c', ys.Perm xs ∧ SrcC c' (m + xs.length) ∧ callN Γ (k + 2) i__law_shuffled [.loc s, d] S = .ok (.loc S.length) (S.set s c' ++ [.lst ys]) := by
  have hsl := (List.getElem?_eq_some_iff.mp hs).1
  have srcl : ∀ {c : Cell} {m n : Nat}, SrcC c m → c.cl n = true := fun {c m n} q => by
    obtain ⟨x, y, z, rfl, _⟩ := q
    simp
  -- the turns
  have turns : ∃ S', loopC .free (turnC (callN Γ (k + 1)) (.bm .popAt (.var 2) (.cons (.call i__law_draw (.cons (.var 0) (.cons (.bf .len (.cons (.var 2) .nil)) .nil))) .nil)) (.nm 3) .none [some (.loc s), some d, some (.loc S.length), none]) (S.length + 1) (rangeL 0 xs.length) (S ++ [.lst xs, .lst []]) = .ok () S' ∧
      ∃ c' left ys, S' = S.set s c' ++ [.lst left, .lst ys] ∧ SrcC c' (m + (rangeL 0 xs.length).length) ∧ left.length + (rangeL 0 xs.length).length = xs.length ∧ (left ++ ys).Perm xs := by
    refine loopC_all (src := .free) (fun i S' => ∃ c' left ys, S' = S.set s c' ++ [.lst left, .lst ys] ∧ SrcC c' (m + i) ∧ left.length + i = xs.length ∧ (left ++ ys).Perm xs) ?_ ?_ (fun _ _ => rfl)
    · exact ⟨c, xs, [], by rw [set_self hs], hc, rfl, by simp⟩
    · rintro i x S' ⟨c', left, ys, rfl, hc', hl, hp⟩ hi
      refine ⟨rfl, ?_⟩
      have hi2 : i < xs.length := by
        have := (List.getElem?_eq_some_iff.mp hi).1
        simpa [rangeL_len] using this
      have hT : (S.set s c').length = S.length := by simp
      have g0 : (S.set s c' ++ [.lst left, .lst ys])[s]? = some c' := get_old (List.getElem?_set_self hsl)
      have g1 : ∀ c'', (S.set s c'' ++ [.lst left, .lst ys])[S.length]? = some (.lst left) := fun c'' => by
        have := get_app0 (S := S.set s c'') (T := [.lst left, .lst ys])
        rw [List.length_set] at this
        exact this
      obtain ⟨r, c'', r1, r2, r3⟩ := draw_ok (k := k) h2 g0 hc' (by omega) (b := left.length) (by omega) (by omega)
      rw [set_app (by simpa using hsl), List.set_set] at r3
      obtain ⟨e, he⟩ : ∃ e, left[r]? = some e := ⟨_, List.getElem?_eq_getElem r1⟩
      have g2 := pop_ok (g1 c'') he (by omega)
      have g3 : (S.set s c'' ++ [Cell.lst left, .lst ys]).set S.length (.lst (left.eraseIdx r)) = S.set s c'' ++ [Cell.lst (left.eraseIdx r), .lst ys] := by
        have := set_new0 (S := S.set s c'') (T := [.lst left, .lst ys]) (c := .lst (left.eraseIdx r))
        rw [List.length_set] at this
        exact this
      rw [g3] at g2
      have tn : turnC (callN Γ (k + 1)) (.bm .popAt (.var 2) (.cons (.call i__law_draw (.cons (.var 0) (.cons (.bf .len (.cons (.var 2) .nil)) .nil))) .nil)) (.nm 3) .none [some (.loc s), some d, some (.loc S.length), none] x (S.set s c' ++ [.lst left, .lst ys]) = .ok (some e) (S.set s c'' ++ [.lst (left.eraseIdx r), .lst ys]) := by
        have bk : bmK .popAt (.loc S.length) (S.set s c' ++ [.lst left, .lst ys]) = true := by simp only [bmK, g1]
        simp [turnC, bindT, slotsT, wipeE, evC, bk, lenD_loc (g1 c'), r3, g2]
      have ce : e.cl S.length = true := cls_mem.mp hcl e (hp.subset (List.mem_append_left _ (List.mem_of_getElem? he)))
      have cl1 : ∀ y ∈ left ++ ys, y.cl S.length = true := fun y hy => cls_mem.mp hcl y (hp.subset hy)
      have gk : gc (S.set s c' ++ [.lst left, .lst ys]) e (S.set s c'' ++ [.lst (left.eraseIdx r), .lst ys]) = .ok e (S.set s c'' ++ [.lst (left.eraseIdx r), .lst ys]) := by
        have := gc_keep (S := S.set s c' ++ [.lst left, .lst ys]) (S' := S.set s c'' ++ [.lst (left.eraseIdx r), .lst ys]) (T := []) (d := e) (by simp) (fun j cc hj => ?_) (D.cl_mono (by simp) ce)
        · rwa [List.append_nil] at this
        · by_cases j1 : j < S.length
          · rw [List.getElem?_append_left (by simpa using j1)] at hj
            by_cases j2 : s = j
            · subst j2
              rw [List.getElem?_set_self hsl] at hj
              cases hj
              exact .inr (srcl r2)
            · left
              rw [List.getElem?_append_left (by simpa using j1), List.getElem?_set_ne j2]
              rw [List.getElem?_set_ne j2] at hj
              exact hj
          · by_cases j3 : j = S.length
            · subst j3
              have := g1
              have z : (S.set s c'' ++ [Cell.lst (left.eraseIdx r), .lst ys])[S.length]? = some (.lst (left.eraseIdx r)) := by
                have := get_app0 (S := S.set s c'') (T := [Cell.lst (left.eraseIdx r), .lst ys])
                rw [List.length_set] at this
                exact this
              rw [z] at hj
              cases hj
              right
              rw [cl_lst, cls_mem]
              exact fun y hy => D.cl_mono (by simp) (cl1 y (List.mem_append_left _ (List.eraseIdx_subset hy)))
            · left
              rw [List.getElem?_append_right (by simp; omega)] at hj ⊢
              simp only [List.length_set] at hj ⊢
              have : j - S.length = 1 ∨ 1 < j - S.length := by omega
              rcases this with z | z
              · rw [z] at hj ⊢
                exact hj
              · rw [List.getElem?_eq_none (by simp; omega)] at hj
                cases hj
      refine ⟨S.set s c'' ++ [.lst (left.eraseIdx r), .lst (ys ++ [e])], ?_, c'', left.eraseIdx r, ys ++ [e], rfl, by rw [← Nat.add_assoc]; exact r2, ?_, ?_⟩
      · unfold oneC
        rw [tn]
        show (gc _ e _).bind _ = _
        rw [gk, bind_ok]
        have z : (S.set s c'' ++ [Cell.lst (left.eraseIdx r), .lst ys])[S.length + 1]? = some (.lst ys) := by
          have := get_app (S := S.set s c'') (T := [Cell.lst (left.eraseIdx r), .lst ys]) (j := 1)
          rw [List.length_set] at this
          exact this
        have z2 : (S.set s c'' ++ [Cell.lst (left.eraseIdx r), .lst ys]).set (S.length + 1) (.lst (ys ++ [e])) = S.set s c'' ++ [Cell.lst (left.eraseIdx r), .lst (ys ++ [e])] := by
          have := set_new (S := S.set s c'') (T := [Cell.lst (left.eraseIdx r), .lst ys]) (j := 1) (c := .lst (ys ++ [e]))
          rw [List.length_set] at this
          exact this
        simp only [z, z2]
        rw [if_pos]
        have := hp.length_eq
        rw [List.length_append] at this
        have : sizeLine = 16777216 := sizeLine_eq
        omega
      · rw [List.length_eraseIdx, if_pos r1]
        omega
      · refine List.Perm.trans ?_ hp
        have := (erase_perm he).append_right ys
        refine List.Perm.trans ?_ this
        rw [List.append_assoc]
        exact (List.perm_append_comm (l₁ := ys) (l₂ := [e])).append_left _
  obtain ⟨S', e1, c', left, ys, rfl, hc', hl, hp⟩ := turns
  rw [rangeL_len] at hc' hl
  have l0 : left = [] := List.eq_nil_of_length_eq_zero (by omega)
  subst l0
  refine ⟨ys, c', hp, hc', ?_⟩
  rw [callN_eq h rfl]
  have sm : small62 (xs.length : Int) = true := decide_eq_true (by omega)
  have rg : rangeOf [.int xs.length] = some (rangeL 0 xs.length) := by
    show (if small62 (xs.length : Int) = true then some (rangeL 0 (xs.length : Int).toNat) else none) = _
    rw [if_pos sm, Int.toNat_natCast]
  have bl : bfD .list [d] S = .ok (.loc S.length) (S ++ [.lst xs]) := by
    show (match seqOf S d with | some xs => newC (.lst xs) S | none => .bad) = _
    rw [hx]
    rfl
  have ln : lenD (S ++ [.lst xs]) (.loc S.length) = some xs.length := lenD_loc get_app0
  have gl : gc S (.loc (S.length + 1)) (S.set s c' ++ [.lst [], .lst ys]) = .ok (.loc S.length) (S.set s c' ++ [.lst ys]) := by
    refine gc_keepN (by simp) (fun j cc hj => ?_) rfl (by rw [cl_lst, cls_mem]; exact fun y hy => cls_mem.mp hcl y (hp.subset hy))
    by_cases j2 : s = j
    · subst j2
      rw [List.getElem?_set_self hsl] at hj
      cases hj
      exact .inr (srcl hc')
    · left
      rw [List.getElem?_set_ne j2] at hj
      exact hj
  have t1 : evI (callN Γ (k + 1)) (.range (.cons (.bf .len (.cons (.var 2) .nil)) .nil)) [some (.loc s), some d, some (.loc S.length), none] (S ++ [.lst xs]) = .ok (rangeL 0 xs.length, .free) (S ++ [.lst xs]) := by
    simp [ln, rg]
  have t2 : evE (callN Γ (k + 1)) (.lc (.bm .popAt (.var 2) (.cons (.call i__law_draw (.cons (.var 0) (.cons (.bf .len (.cons (.var 2) .nil)) .nil))) .nil)) (.nm 3) (.range (.cons (.bf .len (.cons (.var 2) .nil)) .nil)) .none) [some (.loc s), some d, some (.loc S.length), none] (S ++ [.lst xs]) = .ok (.loc (S.length + 1)) (S.set s c' ++ [.lst [], .lst ys]) := by
    have el : (S ++ [Cell.lst xs]).length = S.length + 1 := by simp
    rw [ev_lc, t1, bind_ok, el]
    have ea : S ++ [Cell.lst xs] ++ [.lst []] = S ++ [.lst xs, .lst []] := by simp
    rw [ea]
    show (loopC .free (turnC (callN Γ (k + 1)) (.bm .popAt (.var 2) (.cons (.call i__law_draw (.cons (.var 0) (.cons (.bf .len (.cons (.var 2) .nil)) .nil))) .nil)) (.nm 3) .none [some (.loc s), some d, some (.loc S.length), none]) (S.length + 1) (rangeL 0 xs.length) (S ++ [.lst xs, .lst []])).bind _ = _
    rw [e1, bind_ok]
  simp [f__law_shuffled, bl, t2, gl]
end Iv

set_option maxRecDepth 100000
namespace Iv
open PySem
theorem putA_new {κ β : Type} [DecidableEq κ] {k : κ} {v : β} : ∀ {l : List (κ × β)}, k ∉ l.map (·.1) → putA k v l = l ++ [(k, v)]
  | [], _ => rfl
  | (a, b) :: r, h => by
    have h1 : a ≠ k := fun e => h (by simp [e])
    unfold putA
    rw [if_neg h1, putA_new fun z => h (List.mem_cons_of_mem _ z)]
    rfl
theorem nodup_len {α : Type} [DecidableEq α] : ∀ {l m : List α}, l.Nodup → (∀ x ∈ l, x ∈ m) → l.length ≤ m.length
  | [], _, _, _ => Nat.zero_le _
  | x :: l, m, h, s => by
    obtain ⟨h1, h2⟩ := List.nodup_cons.mp h
    have hx := s x List.mem_cons_self
    have i := nodup_len (m := m.erase x) h2 fun y hy => (List.mem_erase_of_ne (fun e => h1 (by rw [← e]; exact hy))).mpr (s y (List.mem_cons_of_mem _ hy))
    rw [List.length_erase_of_mem hx] at i
    have := List.length_pos_of_mem hx
    simp only [List.length_cons]
    omega
theorem fw : ∀ n, n < 1000000 → n < fuelW := fun n h => by
  unfold fuelW
  omega
theorem beq_str (a b : Str) : (a == b) = decide (a = b) := by
  by_cases h : a = b
  · subst h
    simp
  · rw [decide_eq_false h]
    exact beq_eq_false_iff_ne.mpr h
@[simp] theorem eq_str {a b : Str} {S : Store} : cmpD .Eq (.str a) (.str b) S = some (decide (a = b)) := by
  show eqD (.str a) (.str b) S = _
  unfold eqD
  show some (PyData.eqv (.str a) (.str b)) = _
  rw [← beq_str]
  rfl
@[simp] theorem ne_str {a b : Str} {S : Store} : cmpD .NotEq (.str a) (.str b) S = some (!decide (a = b)) := by
  show (cmpD .Eq (.str a) (.str b) S).map not = _
  rw [eq_str]
  rfl
theorem mapO_sd {S : Store} {n : Nat} : ∀ c : List Str, mapO (toPy S n) (sd c) = some (c.map PyData.str)
  | [] => rfl
  | x :: c => by
    have e : toPy S n (.str x) = some (.str x) := by cases n <;> rfl
    have i := mapO_sd (S := S) (n := n) c
    unfold sd at i ⊢
    simp only [List.map_cons, mapO, e, i]
theorem any_sd {x : Str} : ∀ c : List Str, ((c.map PyData.str).any fun z => PyData.eqv z (.str x)) = hasS x c
  | [] => rfl
  | y :: c => by
    show (PyData.eqv (.str y) (.str x) || (c.map PyData.str).any fun z => PyData.eqv z (.str x)) = (decide (y = x) || hasS x c)
    rw [any_sd c, ← beq_str]
    rfl
@[simp] theorem in_tup {x : Str} {c : List Str} {S : Store} : cmpD .In (.str x) (.tup (sd c)) S = some (hasS x c) := by
  show inL (.str x) (sd c) S = _
  unfold inL
  rw [mapO_sd]
  show some ((c.map PyData.str).any fun z => PyData.eqv z (.str x)) = _
  rw [any_sd]
@[simp] theorem nin_tup {x : Str} {c : List Str} {S : Store} : cmpD .NotIn (.str x) (.tup (sd c)) S = some (!hasS x c) := by
  show (cmpD .In (.str x) (.tup (sd c)) S).map not = _
  rw [in_tup]
  rfl
theorem strs_sd : ∀ c : List Str, strs? (sd c) = some c
  | [] => rfl
  | x :: c => by
    show (strs? (sd c)).map (x :: ·) = _
    rw [strs_sd c]
    rfl
@[simp] theorem eq_int {a b : Int} {S : Store} : cmpD .Eq (.int a) (.int b) S = some (decide (a = b)) := by
  show eqD (.int a) (.int b) S = _
  unfold eqD
  show some (a == b) = _
  congr 1
theorem ints_map : ∀ l : List Int, ints? (l.map D.int) = some l
  | [] => rfl
  | x :: l => by
    show (ints? (l.map D.int)).map (x :: ·) = _
    rw [ints_map l]
    rfl
theorem sum_loc {S : Store} {n : Nat} {l : List Int} (h : S[n]? = some (.lst (l.map D.int))) : bfD .sum [.loc n] S = .ok (.int l.sum) S := by simp [bfD, listOf, lstAt, h, ints_map]
theorem lt_tri {x y : Str} (h : x ≠ y) : (ltStr x y = true ∧ ltStr y x = false) ∨ (ltStr x y = false ∧ ltStr y x = true) := by
  unfold ltStr
  by_cases h1 : x.cps.toList < y.cps.toList
  · left
    exact ⟨decide_eq_true h1, decide_eq_false fun h2 => List.lt_irrefl _ (List.lt_trans h1 h2)⟩
  · right
    refine ⟨decide_eq_false h1, decide_eq_true ?_⟩
    rcases List.le_total x.cps.toList y.cps.toList with z | z
    · rcases List.le_iff_lt_or_eq.mp z with z | z
      · exact absurd z h1
      · exact absurd (str_ext z) h
    · rcases List.le_iff_lt_or_eq.mp z with z | z
      · exact z
      · exact absurd (str_ext z.symm) h
theorem nd_snoc {l : Str} {D : List Str} (h : D.Nodup) (h2 : l ∉ D) : (D ++ [l]).Nodup := by
  rw [List.nodup_append]
  exact ⟨h, by simp, fun a ha b hb e => by rw [List.mem_singleton.mp hb] at e; exact h2 (e ▸ ha)⟩
@[simp] theorem keys0 : keys? [] = some [] := id rfl
@[simp] theorem fromP0 {a : List (Key × D)} : fromPairs a [] = a := id rfl
theorem sIx_nat {n d : Nat} {i : Nat} : HT.sIx n d (some (i : Int)) = min i n := by
  show (if (i : Int) < 0 then ((i : Int) + n).toNat else min (i : Int).toNat n) = _
  rw [if_neg (by omega), Int.toNat_natCast]
theorem cut_from {α : Type} {xs : List α} {i : Nat} : cutL xs (some (i : Int)) none = xs.drop i := by
  unfold cutL
  rw [sIx_nat]
  show (xs.drop (min i xs.length)).take (xs.length - min i xs.length) = _
  rw [List.take_of_length_le (by simp)]
  by_cases h : i ≤ xs.length
  · rw [Nat.min_eq_left h]
  · rw [Nat.min_eq_right (by omega), List.drop_of_length_le (by omega), List.drop_of_length_le (by omega)]
theorem cut_to {α : Type} {xs : List α} {i : Nat} : cutL xs none (some (i : Int)) = xs.take i := by
  unfold cutL
  rw [sIx_nat]
  show (xs.drop 0).take (min i xs.length - 0) = _
  rw [List.drop_zero, Nat.sub_zero]
  by_cases h : i ≤ xs.length
  · rw [Nat.min_eq_left h]
  · rw [Nat.min_eq_right (by omega), List.take_of_length_le (by omega), List.take_of_length_le (by omega)]
theorem rangeL_get : ∀ {n : Nat} {lo : Int} {i : Nat} {x : D}, (rangeL lo n)[i]? = some x → x = .int (lo + i) ∧ i < n
  | 0, _, _, _, h => by cases h
  | n + 1, lo, 0, x, h => by
    cases h
    exact ⟨by simp, by omega⟩
  | n + 1, lo, i + 1, x, h => by
    have h : (rangeL (lo + 1) n)[i]? = some x := h
    obtain ⟨h1, h2⟩ := rangeL_get h
    refine ⟨?_, by omega⟩
    rw [h1]
    congr 1
    omega
theorem range_n {n : Nat} (h : n < 10 ^ 9) : rangeOf [.int (n : Int)] = some (rangeL 0 n) := by
  show (if small62 (n : Int) = true then some (rangeL 0 (n : Int).toNat) else none) = _
  have e : small62 (n : Int) = true := decide_eq_true (by omega)
  rw [if_pos e, Int.toNat_natCast]
theorem slc_loc {S : Store} {n : Nat} {xs : List D} {lo hi : Option Int} (h : S[n]? = some (.lst xs)) : slD (.loc n) lo hi S = .ok (.loc S.length) (S ++ [.lst (cutL xs lo hi)]) := by
  simp [slD, lstAt, h]
@[simp] theorem lt_str {x y : Str} {S : Store} : cmpD .Lt (.str x) (.str y) S = some (ltStr x y) := id rfl
theorem ltStr_irr (x : Str) : ltStr x x = false := decide_eq_false (List.lt_irrefl _)
theorem perm_sd {ys : List D} {l : List Str} (h : ys.Perm (sd l)) : ∃ l', ys = sd l' ∧ l'.Perm l := by
  let g : D → Option Str := fun d => match d with | .str x => some x | _ => none
  have e1 : ∀ l : List Str, (sd l).filterMap g = l := fun l => by
    induction l with
    | nil => rfl
    | cons x l ih =>
      show (D.str x :: sd l).filterMap g = _
      rw [List.filterMap_cons]
      show x :: (sd l).filterMap g = _
      rw [ih]
  have e2 : ∀ ys : List D, (∀ y ∈ ys, ∃ x, y = .str x) → ys = sd (ys.filterMap g) := fun ys => by
    induction ys with
    | nil => exact fun _ => rfl
    | cons y ys ih =>
      intro h
      obtain ⟨x, rfl⟩ := h y List.mem_cons_self
      rw [List.filterMap_cons]
      show _ = D.str x :: sd (ys.filterMap g)
      rw [← ih fun y hy => h y (List.mem_cons_of_mem _ hy)]
  refine ⟨ys.filterMap g, e2 ys fun y hy => ?_, ?_⟩
  · obtain ⟨x, _, e⟩ := List.mem_map.mp (h.subset hy)
    exact ⟨x, e.symm⟩
  · have := h.filterMap g
    rwa [e1] at this
theorem set_get {T : Store} {n : Nat} {c : Cell} (h : n < T.length) : (T.set n c)[n]? = some c := List.getElem?_set_self h
theorem set_get' {T : Store} {n m : Nat} {c : Cell} (h : n ≠ m) : (T.set n c)[m]? = T[m]? := List.getElem?_set_ne h
theorem sd_get {l : List Str} {i : Nat} {x : Str} (h : l[i]? = some x) : (sd l)[i]? = some (.str x) := by unfold sd; rw [List.getElem?_map, h]; rfl
theorem sd_get' {l : List Str} {i : Nat} {x : D} (h : (sd l)[i]? = some x) : ∃ y, l[i]? = some y ∧ x = .str y := by
  unfold sd at h
  rw [List.getElem?_map] at h
  obtain ⟨s, hs, rfl⟩ := Option.map_eq_some_iff.mp h
  exact ⟨s, hs, rfl⟩
theorem sd_len (l : List Str) : (sd l).length = l.length := by simp [sd]
theorem not_lt_le (x y : Str) : (!ltStr y x) = leStr x y := by
  unfold ltStr leStr
  by_cases h : y.cps.toList < x.cps.toList
  · rw [decide_eq_true h, decide_eq_false fun z => absurd h (List.not_lt.mpr z)]
    rfl
  · rw [decide_eq_false h, decide_eq_true (List.not_lt.mp h)]
    rfl
theorem dataLe_str (x y : Str) : PySem.W.dataLe false (fun p : D × PyData => p.2) (.str x, .str x) (.str y, .str y) = leStr x y := by
  rw [← not_lt_le]
  show (!(PyProof.Rows.strKind.blt y.cps.toList x.cps.toList || (!PyProof.Rows.strKind.blt x.cps.toList y.cps.toList && false))) = _
  rw [Bool.and_false, Bool.or_false]
  rfl
theorem sortBy_sd (l : List Str) : sortBy (sd l) (l.map PyData.str) = sd (sortS l) := by
  unfold sortBy sortS
  have e : (sd l).zip (l.map PyData.str) = l.map fun x => (D.str x, PyData.str x) := by
    unfold sd
    rw [List.zip_map']
  rw [e, ← List.map_mergeSort (r := leStr) (s := PySem.W.dataLe false (·.2)) (f := fun x => (D.str x, PyData.str x)) (fun a _ b _ => (dataLe_str a b).symm), List.map_map]
  rfl
theorem sortD_sd {S : Store} {l : List Str} (h : l.length < 1000) : sortD S (sd l) = some (sd (sortS l)) := by
  unfold sortD
  rw [mapO_sd]
  have a : alikes (l.map PyData.str) = true := by
    unfold alikes
    rw [List.all_eq_true]
    intro d hd
    rw [List.all_eq_true]
    intro e he
    obtain ⟨x, _, rfl⟩ := List.mem_map.mp hd
    obtain ⟨y, _, rfl⟩ := List.mem_map.mp he
    rfl
  have b : sortable (l.map PyData.str) = true := by
    unfold sortable
    rw [Bool.or_eq_true]
    right
    rw [List.all_eq_true]
    intro d hd
    obtain ⟨x, _, rfl⟩ := List.mem_map.mp hd
    rfl
  have c : decide ((sd l).length ≤ sizeLine) = true := decide_eq_true (by rw [sd_len, sizeLine_eq]; omega)
  show (if (alikes (l.map PyData.str) && sortable (l.map PyData.str) && decide ((sd l).length ≤ sizeLine)) = true then some (sortBy (sd l) (l.map PyData.str)) else none) = _
  rw [if_pos (by rw [a, b, c]; rfl), sortBy_sd]
theorem sorted_loc {S : Store} {n : Nat} {l : List Str} (h : S[n]? = some (.lst (sd l))) (hl : l.length < 1000) : bfD .sorted [.loc n] S = .ok (.loc S.length) (S ++ [.lst (sd (sortS l))]) := by
  show (match listOf S (.loc n) with
    | some xs => match sortD S xs with
      | some ys => newC (.lst ys) S
      | none => .bad
    | none => sortK (.loc n) S) = _
  have l1 : listOf S (.loc n) = some (sd l) := by simp [listOf, lstAt, h]
  rw [l1]
  show (match sortD S (sd l) with
      | some ys => newC (.lst ys) S
      | none => .bad) = _
  rw [sortD_sd hl]
  rfl
theorem SrcC.mono {c : Cell} {m m' : Nat} (h : SrcC c m) (e : m ≤ m') : SrcC c m' := by
  obtain ⟨x, y, z, rfl, h1, h2, h3, h4⟩ := h
  exact ⟨x, y, z, rfl, h1, h2, h3, by omega⟩
theorem SrcC.cl {c : Cell} {m n : Nat} (q : SrcC c m) : c.cl n = true := by
  obtain ⟨x, y, z, rfl, _⟩ := q
  simp
theorem evss_cons {F : Fns} {s : IS} {r : ISs} {ρ : Env} {S : Store} : evSs F (.cons s r) ρ S = (evS F s ρ S).bind fun ρ' S' => evSs F r ρ' S' := rfl
theorem evss_nx {F : Fns} {s : IS} {r : ISs} {ρ ρ' : Env} {S S' : Store} (h : evS F s ρ S = .nx ρ' S') : evSs F (.cons s r) ρ S = evSs F r ρ' S' := by
  rw [evss_cons, h]
  rfl
theorem add_loc {S : Store} {m n : Nat} {xs ys : List D} (h : S[m]? = some (.lst xs)) (h2 : S[n]? = some (.lst ys)) (hz : xs.length + ys.length ≤ 16777216) : opD .Add (.loc m) (.loc n) S = .ok (.loc S.length) (S ++ [.lst (xs ++ ys)]) := by
  have hz : xs.length + ys.length ≤ sizeLine := by rw [sizeLine_eq]; exact hz
  simp only [opD, h, h2]
  rw [if_pos hz]
  rfl
theorem cls_sd (n : Nat) (l : List Str) : D.cls n (sd l) = true := by
  rw [cls_mem]
  intro y hy
  obtain ⟨z, _, rfl⟩ := List.mem_map.mp hy
  rfl
/-- behind a call that wrote the source only -/
theorem gc_src {S T : Store} {s m : Nat} {c : Cell} {d : D} (hc : SrcC c m) (hd : d.cl S.length = true) : gc S d (S.set s c ++ T) = .ok d (S.set s c) := gc_set hc.cl hd
section
variable {S : Store} {s : Nat} {c : Cell}
theorem B_len {c' : Cell} {L : Store} : (S.set s c' ++ L).length = S.length + L.length := by simp
theorem B_get {c' : Cell} {L : Store} {j : Nat} : (S.set s c' ++ L)[S.length + j]? = L[j]? := by
  have := get_app (S := S.set s c') (T := L) (j := j)
  rwa [List.length_set] at this
theorem B_s (h : S[s]? = some c) {c' : Cell} {L : Store} : (S.set s c' ++ L)[s]? = some c' := get_old (List.getElem?_set_self (List.getElem?_eq_some_iff.mp h).1)
theorem B_set (h : S[s]? = some c) {c' c'' : Cell} {L : Store} : (S.set s c' ++ L).set s c'' = S.set s c'' ++ L := by
  rw [set_app (by rw [List.length_set]; exact (List.getElem?_eq_some_iff.mp h).1), List.set_set]
theorem B_app {c' : Cell} {L M : Store} : S.set s c' ++ L ++ M = S.set s c' ++ (L ++ M) := List.append_assoc _ _ _
theorem B_new {c' d : Cell} {L : Store} {j : Nat} : (S.set s c' ++ L).set (S.length + j) d = S.set s c' ++ L.set j d := by
  have := set_new (S := S.set s c') (T := L) (j := j) (c := d)
  rwa [List.length_set] at this
end
theorem seq_loc {S : Store} {n : Nat} {xs : List D} (h : S[n]? = some (.lst xs)) : seqOf S (.loc n) = some xs := by simp [seqOf, lstAt, h]
theorem app_len (a b : Str) : (a ++ b).length = a.length + b.length := Array.size_append ..
theorem join_len {sep : Str} {B : Nat} : ∀ {ts : List Str}, (∀ t ∈ ts, t.length ≤ B) → (sep.join ts).length ≤ ts.length * (B + sep.length)
  | [], _ => Nat.zero_le _
  | [x], h => by
    have := h x List.mem_cons_self
    show x.length ≤ 1 * (B + sep.length)
    omega
  | x :: y :: ts, h => by
    have h1 := h x List.mem_cons_self
    have i := join_len (sep := sep) (ts := y :: ts) fun t ht => h t (List.mem_cons_of_mem _ ht)
    show (x ++ sep ++ sep.join (y :: ts)).length ≤ _
    rw [app_len, app_len]
    have e : (x :: y :: ts).length * (B + sep.length) = (y :: ts).length * (B + sep.length) + (B + sep.length) := by
      rw [List.length_cons, Nat.succ_mul]
    omega
theorem tuple_len {B : Nat} {ts : List Str} (h : ∀ t ∈ ts, t.length ≤ B) : (tupleText ts).length ≤ ts.length * (B + 2) + 3 := by
  have j := join_len (sep := Str.ofString ", ") h
  have e : (Str.ofString ", ").length = 2 := rfl
  rw [e] at j
  unfold tupleText
  rw [app_len, app_len]
  have e1 : (Str.ofString "(").length = 1 := rfl
  have e2 : (Str.ofString (if (ts.length == 1) = true then ",)" else ")")).length ≤ 2 := by
    split
    · exact Nat.le_refl _
    · exact Nat.le_succ _
  omega
theorem shownAll_map : ∀ l : List PyData, PyData.shownAll l = l.map PyData.shown
  | [] => rfl
  | x :: l => by
    rw [PyData.shownAll, shownAll_map l]
    rfl
theorem showAll_map : ∀ l : List PyData, PyData.showableAll l = l.all PyData.showable
  | [] => rfl
  | x :: l => by
    rw [PyData.showableAll, showAll_map l]
    rfl
theorem hasAll_map : ∀ l : List PyData, PyData.hasDictAll l = l.any PyData.hasDict
  | [] => rfl
  | x :: l => by
    rw [PyData.hasDictAll, hasAll_map l]
    rfl
theorem repr_bl {b : Bool} {S : Store} : bfD .repr [.bl b] S = .ok (.str (PyData.bool b).shown) S := by
  have e : reprOk (PyData.bool b) = true := by cases b <;> decide +kernel
  show ok? ((if reprOk (PyData.bool b) = true then some (PyData.bool b).shown else none).map D.str) S = _
  rw [if_pos e]
  rfl
theorem repr_of {d : D} {v : PyData} {S : Store} (h : toPy S 8 d = some v) (e : reprOk v = true) : bfD .repr [d] S = .ok (.str v.shown) S := by
  show ok? ((reprD S d).map D.str) S = _
  unfold reprD
  rw [h]
  show ok? ((if reprOk v = true then some v.shown else none).map D.str) S = _
  rw [if_pos e]
  rfl
theorem ok_small : ∀ n : Nat, n < 100 → reprOk (.int (n : Nat)) = true := by decide +kernel
theorem so_lt {l : List Str} (h : l.Pairwise fun a b => leStr a b = true) : l.Pairwise fun a b => ltStr b a = false := by
  refine h.imp fun {a b} h => ?_
  rw [← not_lt_le] at h
  simpa using h

end Iv

set_option maxRecDepth 100000
namespace Iv
open PySem
abbrev xnm1 : IS := .asg (.nm 3) (.con (.str "abcdefghijklmnopqrstuvwxyz"))
abbrev xnm2 : IS := .asg (.nm 4) (.ix (.var 3) (.bin .Mod (.bin .Add (.var 2) (.var 1)) (.con (.int 26))))
abbrev xnm3 : IS := .asg (.nm 5) (.ix (.var 3) (.bin .Mod (.bin .Add (.bin .FloorDiv (.var 2) (.con (.int 26))) (.bin .Mult (.con (.int 2)) (.var 1))) (.con (.int 26))))
abbrev xnm4 : IS := .asg (.nm 6) (.lst (.cons (.bin .Add (.var 4) (.bin .Mult (.var 5) (.bf .int (.cons (.cmp .Gt (.var 2) (.con (.int 25))) (.nil))))) (.cons (.bin .Add (.var 5) (.var 4)) (.cons (.bin .Add (.bin .Add (.con (.str "qq")) (.var 5)) (.var 4)) (.cons (.bin .Add (.bin .Add (.var 4) (.var 5)) (.con (.str "zz"))) (.nil))))))
abbrev xnm5 : IS := .asg (.nm 6) (.bin .Add (.var 6) (.lst (.cons (.bin .Add (.bin .Add (.var 4) (.var 5)) (.bin .Mult (.var 5) (.bin .Mod (.var 2) (.con (.int 3))))) (.cons (.bin .Add (.bin .Add (.var 5) (.var 4)) (.con (.str "xxxx"))) (.nil)))))
abbrev xnm6 : IS := .ret (.some (.ix (.var 6) (.var 0)))
theorem xnmbody : f__law_name = ⟨3, 7, .cons xnm1 (.cons xnm2 (.cons xnm3 (.cons xnm4 (.cons xnm5 (.cons xnm6 (.nil))))))⟩ := rfl
/-! ### texts by their codes -/
def cS (l : List Nat) : Str := ⟨l.toArray⟩
theorem cS_add (a b : List Nat) : cS a ++ cS b = cS (a ++ b) := by
  show (⟨a.toArray ++ b.toArray⟩ : Str) = ⟨(a ++ b).toArray⟩
  rw [List.append_toArray]
@[simp] theorem cS_len (a : List Nat) : (cS a).length = a.length := List.size_toArray ..
@[simp] theorem cS_cps (a : List Nat) : (cS a).cps.toList = a := rfl
theorem cS_inj {a b : List Nat} (h : cS a = cS b) : a = b := by
  have := congrArg (fun x : Str => x.cps.toList) h
  simpa using this
theorem add_cS {a b : List Nat} {S : Store} (h : a.length + b.length < 1000) : opD .Add (.str (cS a)) (.str (cS b)) S = .ok (.str (cS (a ++ b))) S := by
  show (if Operator.Add = .Add ∧ (cS a).length + (cS b).length ≤ sizeLine then Out.ok (D.str (cS a ++ cS b)) S else .bad) = _
  rw [if_pos ⟨rfl, by rw [cS_len, cS_len, sizeLine_eq]; omega⟩, cS_add]
theorem ix_cS {a : List Nat} {i : Int} {S : Store} (h : a.length < 1000) : ixD (.str (cS a)) (.int i) S = (ixAt a i).map fun c => D.str (cS [c]) := by
  show (if (cS a).length ≤ sizeLine then (ixAt (cS a).cps.toList i).map (fun c => D.str ⟨#[c]⟩) else none) = _
  rw [if_pos (by rw [cS_len, sizeLine_eq]; omega)]
  rfl
theorem fold_rep {c : Nat} : ∀ (k : Nat) (a : Array Nat), List.foldl (· ++ ·) a (List.replicate k #[c]) = a ++ (List.replicate k c).toArray
  | 0, a => by simp
  | k + 1, a => by
    rw [List.replicate_succ, List.foldl_cons, fold_rep k, List.replicate_succ]
    apply Array.ext'
    simp
theorem mul_cS {c : Nat} {k : Nat} {S : Store} (h : k < 1000) : opD .Mult (.str (cS [c])) (.int k) S = .ok (.str (cS (List.replicate k c))) S := by
  show (if Operator.Mult = .Mult ∧ (cS [c]).length ≤ 16 ∧ 0 ≤ (k : Int) ∧ (k : Int) ≤ 1048576 then Out.ok (D.str (Txt.mul (cS [c]) k)) S else .bad) = _
  rw [if_pos ⟨rfl, (by rw [cS_len]; exact (by decide : 1 ≤ 16)), by omega, by omega⟩]
  congr 2
  unfold Txt.mul
  by_cases h0 : k = 0
  · subst h0
    rfl
  · rw [if_neg (by omega)]
    by_cases h1 : k = 1
    · subst h1
      rfl
    · rw [if_neg (by
        have : ((k : Int) == 1) = false := beq_eq_false_iff_ne.mpr (by omega)
        rw [this, cS_len]
        exact Bool.false_ne_true)]
      show (⟨List.foldl (· ++ ·) #[] (List.replicate k (cS [c]).cps)⟩ : Str) = _
      have := fold_rep (c := c) k #[]
      rw [show (cS [c]).cps = #[c] from rfl, this, Array.empty_append]
      rfl
def abc : List Nat := (List.range 26).map (97 + ·)
theorem abc_eq : ("abcdefghijklmnopqrstuvwxyz" : Str) = cS abc := by decide +kernel
theorem abc_get {j : Nat} (h : j < 26) : abc[j]? = some (97 + j) := by
  unfold abc
  rw [List.getElem?_map, List.getElem?_range h]
  rfl
def nf (sh n : Nat) : Nat := 97 + (n + sh) % 26
def ns (sh n : Nat) : Nat := 97 + (n / 26 + 2 * sh) % 26
/-- a name's codes -/
def nmC (st sh n : Nat) : List Nat := match st with
  | 0 => nf sh n :: List.replicate (if 25 < n then 1 else 0) (ns sh n)
  | 1 => [ns sh n, nf sh n]
  | 2 => [113, 113, ns sh n, nf sh n]
  | 3 => [nf sh n, ns sh n, 122, 122]
  | 4 => nf sh n :: ns sh n :: List.replicate (n % 3) (ns sh n)
  | _ => [ns sh n, nf sh n, 120, 120, 120, 120]

theorem nmC_len (st sh n : Nat) : (nmC st sh n).length ≤ 6 := by
  unfold nmC
  have := Nat.mod_lt n (show 0 < 3 by omega)
  split <;> simp only [List.length_append, List.length_replicate, List.length_cons, List.length_nil] <;> first | omega | (split <;> omega)
theorem name_ok {Γ : Nat → Option FDef} {k : Nat} (h : Γ i__law_name = some f__law_name) {st sh n : Nat} (h1 : st < 6) (h2 : sh < 26) (h3 : n < 200) (S : Store) :
    callN Γ (k + 1) i__law_name [.int st, .int sh, .int n] S = .ok (.str (cS (nmC st sh n))) S := by
  have ixa : ∀ (j : Nat) (S : Store), j < 26 → ixD (.str "abcdefghijklmnopqrstuvwxyz") (.int (j : Nat)) S = some (.str (cS [97 + j])) := fun j S hj => by
    rw [abc_eq, ix_cS (by decide), ixAt_nat, abc_get hj]
    rfl
  have a1 : opI .Mod ((n : Int) + sh) 26 = some (((n + sh) % 26 : Nat) : Int) := by
    rw [opi_mod (by decide)]
    congr 1
  have a2 : opI .FloorDiv (n : Int) 26 = some ((n / 26 : Nat) : Int) := by
    rw [opi_fdiv (by decide) (by decide)]
    rfl
  have a3 : opI .Mult 2 (sh : Int) = some ((2 * sh : Nat) : Int) := by
    rw [opi_mul]
    · congr 1
    · have : ((sh : Int)).natAbs.log2 ≤ 26 := by
        rw [Int.natAbs_natCast]
        exact Nat.le_trans (Nat.log2_le_self _) (by omega)
      have e : ((2 : Int)).natAbs.log2 = 1 := by decide
      omega
  have a4 : opI .Mod (((n / 26 : Nat) : Int) + ((2 * sh : Nat) : Int)) 26 = some (((n / 26 + 2 * sh) % 26 : Nat) : Int) := by
    rw [opi_mod (by decide)]
    congr 1
  have a5 : opI .Mod (n : Int) 3 = some ((n % 3 : Nat) : Int) := by
    rw [opi_mod (by decide)]
    rfl
  have i1 := fun S => ixa ((n + sh) % 26) S (Nat.mod_lt _ (by omega))
  have i2 := fun S => ixa ((n / 26 + 2 * sh) % 26) S (Nat.mod_lt _ (by omega))
  have m1 : ∀ S, opD .Mult (.str (cS [ns sh n])) (.int (if (25 : Int) < n then 1 else 0)) S = .ok (.str (cS (List.replicate (if 25 < n then 1 else 0) (ns sh n)))) S := fun S => by
    have e : (if (25 : Int) < (n : Int) then (1 : Int) else 0) = ((if 25 < n then 1 else 0 : Nat) : Int) := by
      by_cases c : 25 < n
      · rw [if_pos c, if_pos (by omega)]; rfl
      · rw [if_neg c, if_neg (by omega)]; rfl
    rw [e]
    exact mul_cS (by split <;> omega)
  have m2 : ∀ S, opD .Mult (.str (cS [ns sh n])) (.int ((n % 3 : Nat) : Int)) S = .ok (.str (cS (List.replicate (n % 3) (ns sh n)))) S := fun S => mul_cS (by omega)
  have q1 : ("qq" : Str) = cS [113, 113] := rfl
  have q2 : ("zz" : Str) = cS [122, 122] := rfl
  have q3 : ("xxxx" : Str) = cS [120, 120, 120, 120] := rfl
  have i1 : ∀ S, ixD (.str "abcdefghijklmnopqrstuvwxyz") (.int ((n + sh) % 26 : Nat)) S = some (.str (cS [nf sh n])) := i1
  have i2 : ∀ S, ixD (.str "abcdefghijklmnopqrstuvwxyz") (.int ((n / 26 + 2 * sh) % 26 : Nat)) S = some (.str (cS [ns sh n])) := i2
  have fin : ([.str (cS (nf sh n :: List.replicate (if 25 < n then 1 else 0) (ns sh n))), .str (cS ([ns sh n, nf sh n])), .str (cS ([113, 113, ns sh n, nf sh n])), .str (cS ([nf sh n, ns sh n, 122, 122])), .str (cS (nf sh n :: ns sh n :: List.replicate (n % 3) (ns sh n))), .str (cS ([ns sh n, nf sh n, 120, 120, 120, 120]))] : List D)[st]? = some (.str (cS (nmC st sh n))) := by
    match st, h1 with
    | 0, _ => rfl
    | 1, _ => rfl
    | 2, _ => rfl
    | 3, _ => rfl
    | 4, _ => rfl
    | 5, _ => rfl
  generalize nmC st sh n = w at *
  generalize nf sh n = f at *
  generalize ns sh n = s at *
  have g1 : ∀ S, opD .Add (.str (cS [f])) (.str (cS (List.replicate (if 25 < n then 1 else 0) s))) S = .ok (.str (cS (f :: List.replicate (if 25 < n then 1 else 0) s))) S := fun S => add_cS (by rw [List.length_replicate]; simp only [List.length_singleton]; split <;> omega)
  have g2 : ∀ S, opD .Add (.str (cS [s])) (.str (cS [f])) S = .ok (.str (cS ([s, f]))) S := fun S => add_cS (by simp)
  have g3 : ∀ S, opD .Add (.str "qq") (.str (cS [s])) S = .ok (.str (cS ([113, 113, s]))) S := fun S => by rw [q1]; exact add_cS (by simp)
  have g4 : ∀ S, opD .Add (.str (cS ([113, 113, s]))) (.str (cS [f])) S = .ok (.str (cS ([113, 113, s, f]))) S := fun S => add_cS (by simp)
  have g5 : ∀ S, opD .Add (.str (cS [f])) (.str (cS [s])) S = .ok (.str (cS ([f, s]))) S := fun S => add_cS (by simp)
  have g6 : ∀ S, opD .Add (.str (cS ([f, s]))) (.str "zz") S = .ok (.str (cS ([f, s, 122, 122]))) S := fun S => by rw [q2]; exact add_cS (by simp)
  have g7 : ∀ S, opD .Add (.str (cS ([f, s]))) (.str (cS (List.replicate (n % 3) s))) S = .ok (.str (cS (f :: s :: List.replicate (n % 3) s))) S := fun S => add_cS (by simp only [List.length_cons, List.length_nil, List.length_replicate]; omega)
  have g8 : ∀ S, opD .Add (.str (cS ([s, f]))) (.str "xxxx") S = .ok (.str (cS ([s, f, 120, 120, 120, 120]))) S := fun S => by rw [q3]; exact add_cS (by simp)
  have bi : ∀ (b : Bool) S, bfD .int [.bl b] S = .ok (.int (if b = true then 1 else 0)) S := fun b S => by cases b <;> rfl
  generalize (n + sh) % 26 = j1 at *
  generalize (n / 26 + 2 * sh) % 26 = j2 at *
  generalize n / 26 = j3 at *
  generalize 2 * sh = j4 at *
  generalize n % 3 = j5 at *
  have s1 : evS (callN Γ k) xnm1 [some (.int st), some (.int sh), some (.int n), none, none, none, none] S = .nx [some (.int st), some (.int sh), some (.int n), some (.str "abcdefghijklmnopqrstuvwxyz"), none, none, none] S := rfl
  obtain ⟨z, hz⟩ : ∃ z : Str, z = "abcdefghijklmnopqrstuvwxyz" := ⟨_, rfl⟩
  rw [← hz] at s1
  simp only [← hz] at i1 i2
  have s2 : evS (callN Γ k) xnm2 [some (.int st), some (.int sh), some (.int n), some (.str z), none, none, none] S = .nx [some (.int st), some (.int sh), some (.int n), some (.str z), some (.str (cS [f])), none, none] S := by
    simp [a1, i1]
  have s3 : evS (callN Γ k) xnm3 [some (.int st), some (.int sh), some (.int n), some (.str z), some (.str (cS [f])), none, none] S = .nx [some (.int st), some (.int sh), some (.int n), some (.str z), some (.str (cS [f])), some (.str (cS [s])), none] S := by
    simp [a2, a3, a4, i2]
  have s4 : evS (callN Γ k) xnm4 [some (.int st), some (.int sh), some (.int n), some (.str z), some (.str (cS [f])), some (.str (cS [s])), none] S = .nx [some (.int st), some (.int sh), some (.int n), some (.str z), some (.str (cS [f])), some (.str (cS [s])), some (.loc S.length)] (S ++ [.lst [.str (cS (f :: List.replicate (if 25 < n then 1 else 0) s)), .str (cS ([s, f])), .str (cS ([113, 113, s, f])), .str (cS ([f, s, 122, 122]))]]) := by
    simp [bi, m1, g1, g2, g3, g4, g5, g6]
  have s5 : evS (callN Γ k) xnm5 [some (.int st), some (.int sh), some (.int n), some (.str z), some (.str (cS [f])), some (.str (cS [s])), some (.loc S.length)] (S ++ [.lst [.str (cS (f :: List.replicate (if 25 < n then 1 else 0) s)), .str (cS [s, f]), .str (cS [113, 113, s, f]), .str (cS [f, s, 122, 122])]]) = .nx [some (.int st), some (.int sh), some (.int n), some (.str z), some (.str (cS [f])), some (.str (cS [s])), some (.loc (S.length + 2))] (S ++ [.lst [.str (cS (f :: List.replicate (if 25 < n then 1 else 0) s)), .str (cS [s, f]), .str (cS [113, 113, s, f]), .str (cS [f, s, 122, 122])], .lst [.str (cS (f :: s :: List.replicate j5 s)), .str (cS [s, f, 120, 120, 120, 120])], .lst [.str (cS (f :: List.replicate (if 25 < n then 1 else 0) s)), .str (cS [s, f]), .str (cS [113, 113, s, f]), .str (cS [f, s, 122, 122]), .str (cS (f :: s :: List.replicate j5 s)), .str (cS [s, f, 120, 120, 120, 120])]]) := by
    have ad := add_loc (S := S ++ [.lst [.str (cS (f :: List.replicate (if 25 < n then 1 else 0) s)), .str (cS [s, f]), .str (cS [113, 113, s, f]), .str (cS [f, s, 122, 122])], .lst [.str (cS (f :: s :: List.replicate j5 s)), .str (cS [s, f, 120, 120, 120, 120])]]) (m := S.length) (n := S.length + 1) (by rw [get_app0]; rfl) (by rw [get_app]; rfl) (by simp)
    simp only [List.length_append, List.length_cons, List.length_nil, List.append_assoc, List.cons_append, List.nil_append] at ad
    simp [a5, m2, g5, g7, g2, g8, ad]
  have gd : ∀ L : Store, gc S (.str (cS w)) (S ++ L) = .ok (.str (cS w)) S := fun L => gc_drop rfl
  have s6 : ∀ L : Store, (S ++ L)[S.length + 2]? = some (.lst [.str (cS (f :: List.replicate (if 25 < n then 1 else 0) s)), .str (cS [s, f]), .str (cS [113, 113, s, f]), .str (cS [f, s, 122, 122]), .str (cS (f :: s :: List.replicate j5 s)), .str (cS [s, f, 120, 120, 120, 120])]) → gcO S (bodyO (evSs (callN Γ k) (.cons xnm6 .nil) [some (.int st), some (.int sh), some (.int n), some (.str z), some (.str (cS [f])), some (.str (cS [s])), some (.loc (S.length + 2))] (S ++ L))) = .ok (.str (cS w)) S := fun L hL => by
    have gd := gd L
    generalize S ++ L = T at *
    simp [-ixAt_0, hL, fin, gd]
  rw [callN_eq h rfl]
  show gcO S (bodyO (evSs (callN Γ k) f__law_name.body [some (.int st), some (.int sh), some (.int n), none, none, none, none] S)) = _
  have bd : f__law_name.body = .cons xnm1 (.cons xnm2 (.cons xnm3 (.cons xnm4 (.cons xnm5 (.cons xnm6 .nil))))) := rfl
  rw [bd, evss_nx s1, evss_nx s2, evss_nx s3, evss_nx s4, evss_nx s5]
  exact s6 _ (by rw [get_app]; rfl)
end Iv

set_option maxRecDepth 100000
namespace Iv
open PySem
abbrev xlp1 : IS := .asg (.nm 3) (.call i__law_draw (.cons (.var 0) (.cons (.con (.int 9)) (.nil))))
abbrev xlp2 : IS := .asg (.nm 4) (.lst (.nil))
abbrev xlp3 : IS := .for_ (.nm 5) (.range (.cons (.var 1) (.nil))) (.cons (.asg (.nm 4) (.bin .Add (.var 4) (.lc (.tup (.cons (.var 5) (.cons (.var 10) (.nil)))) (.nm 10) (.range (.cons (.var 2) (.nil))) (.none)))) (.nil))
abbrev xlp4 : IS := .ife (.cmp .Lt (.var 3) (.con (.int 2))) (.cons (.ret (.some (.var 4))) (.nil)) (.nil)
abbrev xlp5 : IS := .ife (.cmp .Eq (.var 3) (.con (.int 2))) (.cons (.ret (.some (.lst (.nil)))) (.nil)) (.nil)
abbrev xlp6 : IS := .ife (.cmp .Eq (.var 3) (.con (.int 3))) (.cons (.ret (.some (.lst (.cons (.ix (.var 4) (.call i__law_draw (.cons (.var 0) (.cons (.bf .len (.cons (.var 4) (.nil))) (.nil))))) (.nil))))) (.nil)) (.nil)
abbrev xlp7 : IS := .ife (.cmp .Eq (.var 3) (.con (.int 4))) (.cons (.asg (.nm 6) (.call i__law_shuffled (.cons (.var 0) (.cons (.lrange (.cons (.var 1) (.nil))) (.nil))))) (.cons (.asg (.nm 7) (.call i__law_shuffled (.cons (.var 0) (.cons (.lrange (.cons (.var 2) (.nil))) (.nil))))) (.cons (.asg (.nm 8) (.bin .Add (.con (.int 1)) (.call i__law_draw (.cons (.var 0) (.cons (.bf .min2 (.cons (.var 1) (.cons (.var 2) (.nil)))) (.nil)))))) (.cons (.ret (.some (.lc (.tup (.cons (.ix (.var 6) (.var 11)) (.cons (.ix (.var 7) (.var 11)) (.nil)))) (.nm 11) (.range (.cons (.var 8) (.nil))) (.none)))) (.nil))))) (.nil)
abbrev xlp8 : IS := .ife (.cmp .Eq (.var 3) (.con (.int 5))) (.cons (.asg (.nm 9) (.call i__law_draw (.cons (.var 0) (.cons (.var 1) (.nil))))) (.cons (.ret (.some (.lc (.var 12) (.nm 12) (.val (.var 4)) (.some (.cmp .Eq (.ix (.var 12) (.con (.int 0))) (.var 9)))))) (.nil))) (.nil)
abbrev xlp9 : IS := .ife (.cmp .Eq (.var 3) (.con (.int 6))) (.cons (.asg (.nm 9) (.call i__law_draw (.cons (.var 0) (.cons (.var 2) (.nil))))) (.cons (.ret (.some (.lc (.var 12) (.nm 12) (.val (.var 4)) (.some (.cmp .Eq (.ix (.var 12) (.con (.int 1))) (.var 9)))))) (.nil))) (.nil)
abbrev xlp10 : IS := .ife (.cmp .Eq (.var 3) (.con (.int 7))) (.cons (.expr (.bm .popAt (.var 4) (.cons (.call i__law_draw (.cons (.var 0) (.cons (.bf .len (.cons (.var 4) (.nil))) (.nil)))) (.nil)))) (.cons (.ret (.some (.var 4))) (.nil))) (.nil)
abbrev xlp11 : IS := .ret (.some (.lc (.var 12) (.nm 12) (.val (.var 4)) (.some (.cmp .Eq (.call i__law_draw (.cons (.var 0) (.cons (.con (.int 3)) (.nil)))) (.con (.int 0))))))
/-! ### lists of pairs -/
def pr (L : List (Int × Int)) : List D := L.map fun q => .tup [.int q.1, .int q.2]
theorem pr_len (L : List (Int × Int)) : (pr L).length = L.length := by simp [pr]
theorem cls_pr (n : Nat) (L : List (Int × Int)) : D.cls n (pr L) = true := by
  rw [cls_mem]
  intro y hy
  obtain ⟨z, _, rfl⟩ := List.mem_map.mp hy
  rfl
theorem rangeL_map : ∀ (n : Nat) (lo : Int), rangeL lo n = (List.range n).map fun i : Nat => D.int (lo + i)
  | 0, _ => rfl
  | n + 1, lo => by
    rw [List.range_succ_eq_map, List.map_cons, List.map_map]
    show D.int lo :: rangeL (lo + 1) n = _
    rw [rangeL_map n (lo + 1)]
    congr 1
    · simp
    · refine List.map_congr_left fun i _ => ?_
      show D.int (lo + 1 + (i : Int)) = D.int (lo + ((i + 1 : Nat) : Int))
      congr 1
      omega
/-- a comprehension whose turns leave the store as it was -/
theorem lc_ok {F : Fns} {e : IE} {t : IT} {it : II} {c : IO} {ρ : Env} {S S1 : Store} {xs : List D} {src : Src} (g : D → Option D) (hi : evI F it ρ S = .ok (xs, src) S1) (hz : xs.length < 1000000) (hs : ∀ acc, src.ok (S1 ++ [.lst acc]) = true)
    (hf : ∀ x ∈ xs, ∀ acc, ∃ T, turnC F e t c ρ x (S1 ++ [.lst acc]) = .ok (g x) (S1 ++ [.lst acc] ++ T)) (hc : ∀ x ∈ xs, ∀ d, g x = some d → d.cl S1.length = true) :
    evE F (.lc e t it c) ρ S = .ok (.loc S1.length) (S1 ++ [.lst (xs.filterMap g)]) := by
  have h := loopC_pure (src := src) (f := turnC F e t c ρ) (xs := xs) (S := S1) g (by rw [sizeLine_eq]; omega) hs hf hc
  rw [ev_lc, hi, bind_ok]
  show (loopC src (turnC F e t c ρ) S1.length xs (S1 ++ [.lst []])).bind _ = _
  rw [h, bind_ok]
theorem rng_ok {F : Fns} {ρ : Env} {S : Store} {e : IE} {n : Nat} (h : evE F e ρ S = .ok (.int n) S) (hn : n < 10 ^ 9) : evI F (.range (.cons e .nil)) ρ S = .ok (rangeL 0 n, .free) S := by
  simp only [evi_range, evs_cons, evs_nil, h, bind_ok, range_n hn]
theorem filterMap_some {α β : Type} (f : α → β) (l : List α) : l.filterMap (fun x => some (f x)) = l.map f := by
  induction l with
  | nil => rfl
  | cons x l ih => rw [List.filterMap_cons, ih]; rfl
abbrev pEnv (s R C w : D) (n4 : Nat) (o5 o6 o7 o8 o9 : Option D) : Env := [some s, some R, some C, some w, some (.loc n4), o5, o6, o7, o8, o9, none, none, none]
/-- all cells -/
theorem pat3 {F : Fns} {B : Store} {R C : Nat} (hR : R < 13) (hC : C < 13) {s w : D} :
    ∃ G j L o5, G[j]? = some (.lst (pr L)) ∧ L.length = R * C ∧ evS F xlp3 (pEnv s (.int R) (.int C) w (B.length + 0) none none none none none) (B ++ [.lst (pr [])]) = .nx (pEnv s (.int R) (.int C) w (B.length + j) o5 none none none none) (B ++ G) := by
  have key := loopF_all (src := .free) (f := fun x ρ S => (asgT F (.nm 5) x ρ S).bindS (fun ρ' S' => evSs F (.cons (.asg (.nm 4) (.bin .Add (.var 4) (.lc (.tup (.cons (.var 5) (.cons (.var 10) (.nil)))) (.nm 10) (.range (.cons (.var 2) (.nil))) (.none)))) (.nil)) ρ' S')) (xs := rangeL 0 R) (ρ := pEnv s (.int R) (.int C) w (B.length + 0) none none none none none) (S := B ++ [.lst (pr [])])
    (fun i ρ S' => ∃ G j L o5, ρ = pEnv s (.int R) (.int C) w (B.length + j) o5 none none none none ∧ S' = B ++ G ∧ G[j]? = some (.lst (pr L)) ∧ L.length = i * C) ⟨[.lst (pr [])], 0, [], none, rfl, rfl, rfl, by simp⟩
    (fun i x ρ S' ⟨G, j, L, o5, e1, e2, e3, e4⟩ hi => ?_) (fun _ _ _ => rfl)
  · obtain ⟨ρ', S', e0, G, j, L, o5, e1, e2, e3, e4⟩ := key
    subst e1 e2
    rw [rangeL_len] at e4
    refine ⟨G, j, L, o5, e3, e4, ?_⟩
    rw [xlp3, st_for', rng_ok (n := R) rfl (by omega)]
    exact e0
  · subst e1 e2
    obtain ⟨rfl, hi2⟩ := rangeL_get hi
    rw [Int.zero_add]
    refine ⟨rfl, ?_⟩
    have lc := lc_ok (F := F) (e := .tup (.cons (.var 5) (.cons (.var 10) (.nil)))) (t := .nm 10) (c := .none) (ρ := pEnv s (.int R) (.int C) w (B.length + j) (some (.int i)) none none none none) (S := B ++ G) (S1 := B ++ G) (it := .range (.cons (.var 2) (.nil)))
      (fun x => some (.tup [.int i, x])) (rng_ok (n := C) rfl (by omega)) (by rw [rangeL_len]; omega) (fun _ => rfl) (fun x hx acc => ⟨[], by simp [turnC, bindT, slotsT, wipeE, evC]⟩) (fun x hx d hd => by
        rw [rangeL_map] at hx
        obtain ⟨y, _, rfl⟩ := List.mem_map.mp hx
        cases hd
        rfl)
    rw [filterMap_some, rangeL_map, List.map_map] at lc
    have e5 : (List.range C).map ((fun x => D.tup [.int i, x]) ∘ fun y : Nat => D.int (0 + y)) = pr ((List.range C).map fun y : Nat => ((i : Int), (y : Int))) := by
      unfold pr
      rw [List.map_map]
      refine List.map_congr_left fun y _ => ?_
      simp
    rw [e5] at lc
    have gj : (B ++ G ++ [.lst (pr ((List.range C).map fun y : Nat => ((i : Int), (y : Int))))])[B.length + j]? = some (.lst (pr L)) := by
      rw [List.append_assoc, get_app]
      rw [List.getElem?_append_left (List.getElem?_eq_some_iff.mp e3).1]
      exact e3
    have ad := add_loc (S := B ++ G ++ [.lst (pr ((List.range C).map fun y : Nat => ((i : Int), (y : Int))))]) (m := B.length + j) (n := (B ++ G).length) gj (by rw [get_app0]; rfl) (by
      rw [pr_len, pr_len, List.length_map, List.length_range, e4]
      have : i * C ≤ 12 * 12 := Nat.mul_le_mul (by omega) (by omega)
      omega)
    have e6 : pr L ++ pr ((List.range C).map fun y : Nat => ((i : Int), (y : Int))) = pr (L ++ (List.range C).map fun y : Nat => ((i : Int), (y : Int))) := by simp [pr]
    rw [e6] at ad
    have e7 : (B ++ G ++ [Cell.lst (pr ((List.range C).map fun y : Nat => ((i : Int), (y : Int))))]).length = B.length + (G.length + 1) := by simp [Nat.add_assoc]
    rw [e7] at ad
    refine ⟨_, _, .inl (?_ : _ = OutS.nx (pEnv s (.int R) (.int C) w (B.length + (G.length + 1)) (some (.int i)) none none none none) (B ++ (G ++ [.lst (pr ((List.range C).map fun y : Nat => ((i : Int), (y : Int)))), .lst (pr (L ++ (List.range C).map fun y : Nat => ((i : Int), (y : Int))))]))), _, G.length + 1, L ++ (List.range C).map (fun y : Nat => ((i : Int), (y : Int))), some (.int i), rfl, rfl, ?_, ?_⟩
    · have e8 : B ++ G ++ [Cell.lst (pr ((List.range C).map fun y : Nat => ((i : Int), (y : Int))))] ++ [.lst (pr (L ++ (List.range C).map fun y : Nat => ((i : Int), (y : Int))))] = B ++ (G ++ [.lst (pr ((List.range C).map fun y : Nat => ((i : Int), (y : Int)))), .lst (pr (L ++ (List.range C).map fun y : Nat => ((i : Int), (y : Int))))]) := by simp
      rw [e8] at ad
      generalize B ++ (G ++ [.lst (pr ((List.range C).map fun y : Nat => ((i : Int), (y : Int)))), .lst (pr (L ++ (List.range C).map fun y : Nat => ((i : Int), (y : Int))))]) = W at ad ⊢
      generalize B ++ G ++ [.lst (pr ((List.range C).map fun y : Nat => ((i : Int), (y : Int))))] = V at ad lc
      generalize B ++ G = U at ad lc ⊢
      simp [lc, ad]
    · rw [List.getElem?_append_right (by omega)]
      have : G.length + 1 - G.length = 1 := by omega
      rw [this]
      rfl
    · rw [List.length_append, e4, List.length_map, List.length_range]
      exact (Nat.succ_mul i C).symm
end Iv

set_option maxRecDepth 100000
namespace Iv
open PySem
/-! ### _law_pattern, its ways -/
theorem pr_get {L : List (Int × Int)} {i : Nat} {q : Int × Int} (h : L[i]? = some q) : (pr L)[i]? = some (.tup [.int q.1, .int q.2]) := by unfold pr; rw [List.getElem?_map, h]; rfl
def PFin (S : Store) (s m : Nat) (o : OutS) : Prop := ∃ c' G j L, SrcC c' m ∧ o = .rt (.loc (S.length + j)) (S.set s c' ++ G) ∧ G[j]? = some (.lst (pr L))
section
variable {Γ : Nat → Option FDef} {k : Nat} {S : Store} {s m : Nat} {c c1 : Cell} {G : Store} {j : Nat} {L : List (Int × Int)} {R C w : Nat} {o5 : Option D}
theorem pw_lt (hw : w < 2) (hc : SrcC c1 m) (hj : G[j]? = some (.lst (pr L))) : PFin S s m (evS (callN Γ k) xlp4 (pEnv (.loc s) (.int R) (.int C) (.int w) (S.length + j) o5 none none none none) (S.set s c1 ++ G)) := by
  refine ⟨c1, G, j, L, hc, ?_, hj⟩
  have : (w : Int) < 2 := by omega
  generalize S.set s c1 ++ G = T
  simp [tru, this]
theorem pw_lt' (hw : ¬ w < 2) {T : Store} {ρ : Env} {n4 : Nat} {o5 : Option D} (hρ : ρ = pEnv (.loc s) (.int R) (.int C) (.int w) n4 o5 none none none none) : evS (callN Γ k) xlp4 ρ T = .nx ρ T := by
  subst hρ
  have : ¬ (w : Int) < 2 := by omega
  simp [tru, this]
theorem pw_2 (hw : w = 2) (hc : SrcC c1 m) : PFin S s m (evS (callN Γ k) xlp5 (pEnv (.loc s) (.int R) (.int C) (.int w) (S.length + j) o5 none none none none) (S.set s c1 ++ G)) := by
  refine ⟨c1, G ++ [.lst (pr [])], G.length, [], hc, ?_, by simp⟩
  subst hw
  have l : (S.set s c1 ++ G).length = S.length + G.length := B_len
  rw [← List.append_assoc]
  generalize S.set s c1 ++ G = T at *
  simp [tru, pr, l]
theorem pw_3 (h4 : Γ i__law_draw = some f__law_draw) (hs : S[s]? = some c) (hw : w = 3) (hc : SrcC c1 m) (hm : m < 10 ^ 14) (hj : G[j]? = some (.lst (pr L))) (hL : 0 < L.length) (hL2 : L.length < 1000) : PFin S s (m + 200) (evS (callN Γ (k + 1)) xlp6 (pEnv (.loc s) (.int R) (.int C) (.int w) (S.length + j) o5 none none none none) (S.set s c1 ++ G)) := by
  obtain ⟨r, c2, r1, hc2, d⟩ := draw_ok (k := k) h4 (S := S.set s c1 ++ G) (B_s hs) hc (by omega) (b := L.length) hL (by omega)
  rw [B_set hs] at d
  obtain ⟨q, hq⟩ : ∃ q, L[r]? = some q := ⟨_, List.getElem?_eq_getElem r1⟩
  refine ⟨c2, G ++ [.lst (pr [q])], G.length, [q], hc2.mono (by omega), ?_, by simp⟩
  subst hw
  have l : (S.set s c2 ++ G).length = S.length + G.length := B_len
  have g1 : (S.set s c1 ++ G)[S.length + j]? = some (.lst (pr L)) := by rw [B_get]; exact hj
  have g2 : (S.set s c2 ++ G)[S.length + j]? = some (.lst (pr L)) := by rw [B_get]; exact hj
  have ln := len_loc g1
  rw [pr_len] at ln
  have hp := pr_get hq
  rw [← List.append_assoc]
  generalize S.set s c2 ++ G = U at *
  generalize S.set s c1 ++ G = T at *
  simp [tru, lenD_loc g1, pr_len, d, g2, hp, l]
  rfl
theorem pw_no {K : Int} {b : ISs} {T : Store} {ρ : Env} {n4 : Nat} {o5 : Option D} (hw : (w : Int) ≠ K) (hρ : ρ = pEnv (.loc s) (.int R) (.int C) (.int w) n4 o5 none none none none) : evS (callN Γ k) (.ife (.cmp .Eq (.var 3) (.con (.int K))) b .nil) ρ T = .nx ρ T := by
  subst hρ
  simp [tru, hw]
theorem pw_5 (h4 : Γ i__law_draw = some f__law_draw) (hs : S[s]? = some c) (hw : w = 5) (hc : SrcC c1 m) (hm : m < 10 ^ 14) (hj : G[j]? = some (.lst (pr L))) (hR : 0 < R) (hR2 : R < 1000) (hL2 : L.length < 1000) : PFin S s (m + 200) (evS (callN Γ (k + 1)) xlp8 (pEnv (.loc s) (.int R) (.int C) (.int w) (S.length + j) o5 none none none none) (S.set s c1 ++ G)) := by
  obtain ⟨r, c2, r1, hc2, d⟩ := draw_ok (k := k) h4 (S := S.set s c1 ++ G) (B_s hs) hc (by omega) (b := R) hR (by omega)
  rw [B_set hs] at d
  have g2 : (S.set s c2 ++ G)[S.length + j]? = some (.lst (pr L)) := by rw [B_get]; exact hj
  have ei : evI (callN Γ (k + 1)) (.val (.var 4)) (pEnv (.loc s) (.int R) (.int C) (.int w) (S.length + j) o5 none none none (some (.int (r : Nat)))) (S.set s c2 ++ G) = .ok (pr L, .lst (S.length + j) (pr L)) (S.set s c2 ++ G) := by
    generalize S.set s c2 ++ G = U at *
    simp [walkOf, seqOf, lstAt, g2, srcOf]
  have lc := lc_ok (F := callN Γ (k + 1)) (e := .var 12) (t := .nm 12) (c := .some (.cmp .Eq (.ix (.var 12) (.con (.int 0))) (.var 9))) (fun x => match x with | .tup [.int a, .int b] => if a = r then some (.tup [.int a, .int b]) else none | _ => none) ei (by rw [pr_len]; omega) (fun acc => decide_eq_true (by unfold lstAt; rw [get_old g2])) (fun x hx acc => ⟨[], by
      obtain ⟨q, _, rfl⟩ := List.mem_map.mp hx
      by_cases e : q.1 = r
      · simp [turnC, bindT, slotsT, wipeE, evC, tru, e]
      · simp [turnC, bindT, slotsT, wipeE, evC, tru, e]⟩) (fun x hx d hd => by
      obtain ⟨q, _, rfl⟩ := List.mem_map.mp hx
      by_cases e : q.1 = r
      · simp [e] at hd; subst hd; rfl
      · simp [e] at hd)
  have e : (pr L).filterMap (fun x => match x with | .tup [.int a, .int b] => if a = r then some (D.tup [.int a, .int b]) else none | _ => none) = pr (L.filter fun q => decide (q.1 = r)) := by
    clear lc ei g2 hj
    induction L with
    | nil => rfl
    | cons q L ih =>
      show List.filterMap _ (.tup [.int q.1, .int q.2] :: pr L) = _
      rw [List.filterMap_cons, ih (by simp only [List.length_cons] at hL2; omega), List.filter_cons]
      by_cases e : q.1 = r
      · simp [e, pr]
      · simp [e]
  rw [e] at lc
  refine ⟨c2, G ++ [.lst (pr (L.filter fun q => decide (q.1 = r)))], G.length, L.filter fun q => decide (q.1 = r), hc2.mono (by omega), ?_, by simp⟩
  have hw' : ((w : Nat) : Int) = 5 := by omega
  rw [hw'] at lc
  have l : (S.set s c2 ++ G).length = S.length + G.length := B_len
  rw [l] at lc
  rw [← List.append_assoc]
  generalize S.set s c2 ++ G ++ [.lst (pr (L.filter fun q => decide (q.1 = r)))] = V at *
  generalize S.set s c2 ++ G = U at *
  generalize S.set s c1 ++ G = T at *
  simp [tru, d, lc, hw']
theorem pw_6 (h4 : Γ i__law_draw = some f__law_draw) (hs : S[s]? = some c) (hw : w = 6) (hc : SrcC c1 m) (hm : m < 10 ^ 14) (hj : G[j]? = some (.lst (pr L))) (hR : 0 < C) (hR2 : C < 1000) (hL2 : L.length < 1000) : PFin S s (m + 200) (evS (callN Γ (k + 1)) xlp9 (pEnv (.loc s) (.int R) (.int C) (.int w) (S.length + j) o5 none none none none) (S.set s c1 ++ G)) := by
  obtain ⟨r, c2, r1, hc2, d⟩ := draw_ok (k := k) h4 (S := S.set s c1 ++ G) (B_s hs) hc (by omega) (b := C) hR (by omega)
  rw [B_set hs] at d
  have g2 : (S.set s c2 ++ G)[S.length + j]? = some (.lst (pr L)) := by rw [B_get]; exact hj
  have ei : evI (callN Γ (k + 1)) (.val (.var 4)) (pEnv (.loc s) (.int R) (.int C) (.int w) (S.length + j) o5 none none none (some (.int (r : Nat)))) (S.set s c2 ++ G) = .ok (pr L, .lst (S.length + j) (pr L)) (S.set s c2 ++ G) := by
    generalize S.set s c2 ++ G = U at *
    simp [walkOf, seqOf, lstAt, g2, srcOf]
  have lc := lc_ok (F := callN Γ (k + 1)) (e := .var 12) (t := .nm 12) (c := .some (.cmp .Eq (.ix (.var 12) (.con (.int 1))) (.var 9))) (fun x => match x with | .tup [.int a, .int b] => if b = r then some (.tup [.int a, .int b]) else none | _ => none) ei (by rw [pr_len]; omega) (fun acc => decide_eq_true (by unfold lstAt; rw [get_old g2])) (fun x hx acc => ⟨[], by
      obtain ⟨q, _, rfl⟩ := List.mem_map.mp hx
      by_cases e : q.2 = r
      · simp [turnC, bindT, slotsT, wipeE, evC, tru, e]
      · simp [turnC, bindT, slotsT, wipeE, evC, tru, e]⟩) (fun x hx d hd => by
      obtain ⟨q, _, rfl⟩ := List.mem_map.mp hx
      by_cases e : q.2 = r
      · simp [e] at hd; subst hd; rfl
      · simp [e] at hd)
  have e : (pr L).filterMap (fun x => match x with | .tup [.int a, .int b] => if b = r then some (D.tup [.int a, .int b]) else none | _ => none) = pr (L.filter fun q => decide (q.2 = r)) := by
    clear lc ei g2 hj
    induction L with
    | nil => rfl
    | cons q L ih =>
      show List.filterMap _ (.tup [.int q.1, .int q.2] :: pr L) = _
      rw [List.filterMap_cons, ih (by simp only [List.length_cons] at hL2; omega), List.filter_cons]
      by_cases e : q.2 = r
      · simp [e, pr]
      · simp [e]
  rw [e] at lc
  refine ⟨c2, G ++ [.lst (pr (L.filter fun q => decide (q.2 = r)))], G.length, L.filter fun q => decide (q.2 = r), hc2.mono (by omega), ?_, by simp⟩
  have hw' : ((w : Nat) : Int) = 6 := by omega
  rw [hw'] at lc
  have l : (S.set s c2 ++ G).length = S.length + G.length := B_len
  rw [l] at lc
  rw [← List.append_assoc]
  generalize S.set s c2 ++ G ++ [.lst (pr (L.filter fun q => decide (q.2 = r)))] = V at *
  generalize S.set s c2 ++ G = U at *
  generalize S.set s c1 ++ G = T at *
  simp [tru, d, lc, hw']
theorem erase_map {α β : Type} (f : α → β) : ∀ (l : List α) (i : Nat), (l.map f).eraseIdx i = (l.eraseIdx i).map f
  | [], _ => rfl
  | x :: l, 0 => rfl
  | x :: l, i + 1 => congrArg (f x :: ·) (erase_map f l i)
theorem pw_7 (h4 : Γ i__law_draw = some f__law_draw) (hs : S[s]? = some c) (hw : w = 7) (hc : SrcC c1 m) (hm : m < 10 ^ 14) (hj : G[j]? = some (.lst (pr L))) (hL : 0 < L.length) (hL2 : L.length < 1000) : PFin S s (m + 200) (evS (callN Γ (k + 1)) xlp10 (pEnv (.loc s) (.int R) (.int C) (.int w) (S.length + j) o5 none none none none) (S.set s c1 ++ G)) := by
  obtain ⟨r, c2, r1, hc2, d⟩ := draw_ok (k := k) h4 (S := S.set s c1 ++ G) (B_s hs) hc (by omega) (b := L.length) hL (by omega)
  rw [B_set hs] at d
  obtain ⟨q, hq⟩ : ∃ q, L[r]? = some q := ⟨_, List.getElem?_eq_getElem r1⟩
  have hj2 := (List.getElem?_eq_some_iff.mp hj).1
  refine ⟨c2, G.set j (.lst (pr (L.eraseIdx r))), j, L.eraseIdx r, hc2.mono (by omega), ?_, List.getElem?_set_self hj2⟩
  subst hw
  have g1 : (S.set s c1 ++ G)[S.length + j]? = some (.lst (pr L)) := by rw [B_get]; exact hj
  have g2 : (S.set s c2 ++ G)[S.length + j]? = some (.lst (pr L)) := by rw [B_get]; exact hj
  have ln := len_loc g1
  rw [pr_len] at ln
  have po := pop_ok g2 (pr_get hq) (by omega)
  have e : (pr L).eraseIdx r = pr (L.eraseIdx r) := erase_map _ _ _
  rw [e, B_new] at po
  have bk : bmK .popAt (.loc (S.length + j)) (S.set s c1 ++ G) = true := by simp only [bmK, g1]
  generalize S.set s c2 ++ G.set j (.lst (pr (L.eraseIdx r))) = V at *
  generalize S.set s c2 ++ G = U at *
  generalize S.set s c1 ++ G = T at *
  simp [tru, lenD_loc g1, pr_len, d, bk, po]
end
end Iv

set_option maxRecDepth 100000
namespace Iv
open PySem
theorem perm_ints {ys : List D} {l : List Int} (h : ys.Perm (l.map D.int)) : ∃ l' : List Int, ys = l'.map D.int ∧ l'.Perm l := by
  let g : D → Option Int := fun d => match d with | .int x => some x | _ => none
  have e1 : ∀ l : List Int, (l.map D.int).filterMap g = l := fun l => by
    induction l with
    | nil => rfl
    | cons x l ih =>
      show (D.int x :: l.map D.int).filterMap g = _
      rw [List.filterMap_cons]
      show x :: (l.map D.int).filterMap g = _
      rw [ih]
  have e2 : ∀ ys : List D, (∀ y ∈ ys, ∃ x, y = .int x) → ys = (ys.filterMap g).map D.int := fun ys => by
    induction ys with
    | nil => exact fun _ => rfl
    | cons y ys ih =>
      intro h
      obtain ⟨x, rfl⟩ := h y List.mem_cons_self
      rw [List.filterMap_cons]
      show _ = D.int x :: (ys.filterMap g).map D.int
      rw [← ih fun y hy => h y (List.mem_cons_of_mem _ hy)]
  refine ⟨ys.filterMap g, e2 ys fun y hy => ?_, ?_⟩
  · obtain ⟨x, _, e⟩ := List.mem_map.mp (h.subset hy)
    exact ⟨x, e.symm⟩
  · have := h.filterMap g
    rwa [e1] at this
def upto (n : Nat) : List Int := (List.range n).map fun i : Nat => (i : Int)
theorem upto_len (n : Nat) : (upto n).length = n := by simp [upto]
theorem rangeL_upto (n : Nat) : rangeL 0 n = (upto n).map D.int := by
  rw [rangeL_map]
  unfold upto
  rw [List.map_map]
  refine List.map_congr_left fun i _ => ?_
  simp
theorem cls_ints (n : Nat) (l : List Int) : D.cls n (l.map D.int) = true := by
  rw [cls_mem]
  intro y hy
  obtain ⟨z, _, rfl⟩ := List.mem_map.mp hy
  rfl
theorem ev_lrange {F : Fns} {e : IE} {ρ : Env} {S : Store} {n : Nat} (h : evE F e ρ S = .ok (.int n) S) (hn : n < 100000) : evE F (.lrange (.cons e .nil)) ρ S = .ok (.loc S.length) (S ++ [.lst ((upto n).map D.int)]) := by
  have hz : (rangeL 0 n).length ≤ sizeLine := by rw [rangeL_len, sizeLine_eq]; omega
  rw [rangeL_upto] at hz
  simp only [evE, evEs, h, bind_ok, range_n (show n < 10 ^ 9 by omega), rangeL_upto]
  rw [if_pos hz]
  rfl
section
variable {Γ : Nat → Option FDef} {k : Nat} {S : Store} {s m : Nat} {c c1 : Cell} {G : Store} {j : Nat} {L : List (Int × Int)} {R C w : Nat} {o5 : Option D}
theorem pw_4 (h4 : Γ i__law_draw = some f__law_draw) (h5 : Γ i__law_shuffled = some f__law_shuffled) (hs : S[s]? = some c) (hw : w = 4) (hc : SrcC c1 m) (hm : m < 10 ^ 14) (hR : 0 < R) (hR2 : R < 13) (hC : 0 < C) (hC2 : C < 13) : PFin S s (m + 200) (evS (callN Γ (k + 2)) xlp7 (pEnv (.loc s) (.int R) (.int C) (.int w) (S.length + j) o5 none none none none) (S.set s c1 ++ G)) := by
  -- lines
  have l1 := ev_lrange (F := callN Γ (k + 2)) (e := .var 1) (ρ := pEnv (.loc s) (.int R) (.int C) (.int w) (S.length + j) o5 none none none none) (S := S.set s c1 ++ G) (n := R) rfl (by omega)
  rw [B_app, B_len] at l1
  obtain ⟨ys, c2, p1, hc2, d1⟩ := shuf_ok (k := k) h5 h4 (S := S.set s c1 ++ (G ++ [Cell.lst ((upto R).map D.int)])) (B_s hs) hc (d := .loc (S.length + G.length)) (xs := (upto R).map D.int) (seq_loc (by rw [B_get]; simp)) (cls_ints _ _) (by rw [List.length_map, upto_len]; omega) (by rw [List.length_map, upto_len]; omega)
  rw [B_set hs, B_app, B_len] at d1
  obtain ⟨u, rfl, pu⟩ := perm_ints p1
  have ul : u.length = R := by rw [pu.length_eq, upto_len]
  rw [List.length_map, upto_len] at hc2
  -- others
  have l2 := ev_lrange (F := callN Γ (k + 2)) (e := .var 2) (ρ := pEnv (.loc s) (.int R) (.int C) (.int w) (S.length + j) o5 (some (.loc (S.length + (G ++ [Cell.lst ((upto R).map D.int)]).length))) none none none) (S := S.set s c2 ++ (G ++ [Cell.lst ((upto R).map D.int)] ++ [Cell.lst (u.map D.int)])) (n := C) rfl (by omega)
  rw [B_app, B_len] at l2
  obtain ⟨ys, c3, p2, hc3, d2⟩ := shuf_ok (k := k) h5 h4 (S := S.set s c2 ++ (G ++ [Cell.lst ((upto R).map D.int)] ++ [Cell.lst (u.map D.int)] ++ [Cell.lst ((upto C).map D.int)])) (B_s hs) hc2 (d := .loc (S.length + (G ++ [Cell.lst ((upto R).map D.int)] ++ [Cell.lst (u.map D.int)]).length)) (xs := (upto C).map D.int) (seq_loc (by rw [B_get]; simp)) (cls_ints _ _) (by rw [List.length_map, upto_len]; omega) (by rw [List.length_map, upto_len]; omega)
  rw [B_set hs, B_app, B_len] at d2
  obtain ⟨v, rfl, pv⟩ := perm_ints p2
  have vl : v.length = C := by rw [pv.length_eq, upto_len]
  rw [List.length_map, upto_len] at hc3
  generalize hG3 : G ++ [Cell.lst ((upto R).map D.int)] ++ [Cell.lst (u.map D.int)] ++ [Cell.lst ((upto C).map D.int)] ++ [Cell.lst (v.map D.int)] = G3 at *
  obtain ⟨r, c4, r1, hc4, d3⟩ := draw_ok (k := k + 1) h4 (S := S.set s c3 ++ G3) (B_s hs) hc3 (by omega) (b := min R C) (by omega) (by omega)
  rw [B_set hs] at d3
  have gu : (S.set s c4 ++ G3)[S.length + (G ++ [Cell.lst ((upto R).map D.int)]).length]? = some (Cell.lst (u.map D.int)) := by rw [B_get, ← hG3]; simp
  have gv : (S.set s c4 ++ G3)[S.length + (G ++ [Cell.lst ((upto R).map D.int)] ++ [Cell.lst (u.map D.int)] ++ [Cell.lst ((upto C).map D.int)]).length]? = some (Cell.lst (v.map D.int)) := by rw [B_get, ← hG3]; simp
  generalize (G ++ [Cell.lst ((upto R).map D.int)]).length = a1 at *
  generalize (G ++ [Cell.lst ((upto R).map D.int)] ++ [Cell.lst (u.map D.int)] ++ [Cell.lst ((upto C).map D.int)]).length = a3 at *
  have lc := lc_ok (F := callN Γ (k + 2)) (e := .tup (.cons (.ix (.var 6) (.var 11)) (.cons (.ix (.var 7) (.var 11)) (.nil)))) (t := .nm 11) (c := .none) (ρ := pEnv (.loc s) (.int R) (.int C) (.int w) (S.length + j) o5 (some (.loc (S.length + a1))) (some (.loc (S.length + a3))) (some (.int ((1 + r : Nat) : Int))) none) (S := S.set s c4 ++ G3) (S1 := S.set s c4 ++ G3) (it := .range (.cons (.var 8) (.nil)))
    (fun x => match x with | .int i => some (.tup [.int (u.getD i.toNat 0), .int (v.getD i.toNat 0)]) | _ => none) (rng_ok (n := 1 + r) rfl (by omega)) (by rw [rangeL_len]; omega) (fun _ => rfl) (fun x hx acc => ⟨[], by
      obtain ⟨i, hi⟩ := List.getElem?_of_mem hx
      obtain ⟨rfl, hi2⟩ := rangeL_get hi
      rw [Int.zero_add]
      have x1 : (u.map D.int)[i]? = some (.int (u.getD i 0)) := by
        rw [List.getElem?_map, List.getElem?_eq_getElem (by omega), List.getD_eq_getElem?_getD, List.getElem?_eq_getElem (by omega)]
        rfl
      have x2 : (v.map D.int)[i]? = some (.int (v.getD i 0)) := by
        rw [List.getElem?_map, List.getElem?_eq_getElem (by omega), List.getD_eq_getElem?_getD, List.getElem?_eq_getElem (by omega)]
        rfl
      have gu' := get_old (T := [Cell.lst acc]) gu
      have gv' := get_old (T := [Cell.lst acc]) gv
      generalize S.set s c4 ++ G3 ++ [Cell.lst acc] = U at *
      simp [turnC, bindT, slotsT, wipeE, evC, gu', gv', -List.getElem?_map, x1, x2]⟩) (fun x hx d hd => by
      obtain ⟨i, hi⟩ := List.getElem?_of_mem hx
      obtain ⟨rfl, hi2⟩ := rangeL_get hi
      cases hd
      rfl)
  have e : (rangeL 0 (1 + r)).filterMap (fun x => match x with | .int i => some (D.tup [.int (u.getD i.toNat 0), .int (v.getD i.toNat 0)]) | _ => none) = pr ((upto (1 + r)).map fun i => (u.getD i.toNat 0, v.getD i.toNat 0)) := by
    rw [rangeL_upto]
    unfold pr
    rw [List.map_map, List.filterMap_map]
    generalize upto (1 + r) = l
    induction l with
    | nil => rfl
    | cons x l ih => rw [List.filterMap_cons, List.map_cons, ← ih]; rfl
  rw [e, B_len, B_app] at lc
  refine ⟨c4, G3 ++ [.lst (pr ((upto (1 + r)).map fun i => (u.getD i.toNat 0, v.getD i.toNat 0)))], G3.length, _, hc4.mono (by omega), ?_, by simp; rfl⟩
  have hw' : ((w : Nat) : Int) = 4 := by omega
  rw [hw'] at l1 l2 lc
  have bm : ∀ S, bfD .min2 [.int (R : Nat), .int (C : Nat)] S = .ok (.int (min R C : Nat)) S := fun S => by
    have : (if ((C : Nat) : Int) < (R : Nat) then ((C : Nat) : Int) else (R : Nat)) = ((min R C : Nat) : Int) := by split <;> omega
    rw [bf_min, this]
  have ad : (1 : Int) + (r : Nat) = ((1 + r : Nat) : Int) := by omega
  generalize hT6 : S.set s c4 ++ (G3 ++ [Cell.lst (pr ((upto (1 + r)).map fun i => (u.getD i.toNat 0, v.getD i.toNat 0)))]) = T6 at *
  generalize ((1 + r : Nat) : Int) = nn at *
  generalize hT5 : S.set s c4 ++ G3 = T5 at *
  generalize hT4 : S.set s c3 ++ G3 = T4 at *
  generalize hT3 : S.set s c2 ++ (G ++ [Cell.lst ((upto R).map D.int)] ++ [Cell.lst (u.map D.int)] ++ [Cell.lst ((upto C).map D.int)]) = T3 at *
  generalize hT2 : S.set s c2 ++ (G ++ [Cell.lst ((upto R).map D.int)] ++ [Cell.lst (u.map D.int)]) = T2 at *
  generalize hT1 : S.set s c1 ++ (G ++ [Cell.lst ((upto R).map D.int)]) = T1 at *
  generalize hT0 : S.set s c1 ++ G = T0 at *
  generalize (G ++ [Cell.lst ((upto R).map D.int)] ++ [Cell.lst (u.map D.int)]).length = a2 at *
  simp [-bf_min, tru, hw', l1, d1, l2, d2, bm, d3, ad, lc]
end
end Iv

set_option maxRecDepth 100000
namespace Iv
open PySem
section
variable {Γ : Nat → Option FDef} {k : Nat} {S : Store} {s m : Nat} {c c1 : Cell} {G : Store} {j : Nat} {L : List (Int × Int)} {R C w : Nat} {o5 : Option D}
theorem pw_8 (h4 : Γ i__law_draw = some f__law_draw) (hs : S[s]? = some c) (hc : SrcC c1 m) (hm : m < 10 ^ 14) (hj : G[j]? = some (.lst (pr L))) (hL2 : L.length < 200) : PFin S s (m + 200) (evS (callN Γ (k + 1)) xlp11 (pEnv (.loc s) (.int R) (.int C) (.int w) (S.length + j) o5 none none none none) (S.set s c1 ++ G)) := by
  have hj2 := (List.getElem?_eq_some_iff.mp hj).1
  have g0 : ∀ c' acc, (S.set s c' ++ (G ++ [Cell.lst (pr acc)]))[S.length + j]? = some (.lst (pr L)) := fun c' acc => by rw [B_get, List.getElem?_append_left hj2]; exact hj
  have turns : ∃ S', loopC (.lst (S.length + j) (pr L)) (turnC (callN Γ (k + 1)) (.var 12) (.nm 12) (.some (.cmp .Eq (.call i__law_draw (.cons (.var 0) (.cons (.con (.int 3)) (.nil)))) (.con (.int 0)))) (pEnv (.loc s) (.int R) (.int C) (.int w) (S.length + j) o5 none none none none)) (S.length + G.length) (pr L) (S.set s c1 ++ (G ++ [Cell.lst (pr [])])) = .ok () S' ∧ ∃ c' acc, S' = S.set s c' ++ (G ++ [Cell.lst (pr acc)]) ∧ SrcC c' (m + (pr L).length) ∧ acc.length ≤ (pr L).length := by
    refine loopC_all (src := .lst (S.length + j) (pr L)) (fun i S' => ∃ c' acc, S' = S.set s c' ++ (G ++ [Cell.lst (pr acc)]) ∧ SrcC c' (m + i) ∧ acc.length ≤ i) ⟨c1, [], rfl, hc, Nat.le_refl _⟩ ?_ ?_
    · rintro i x S' ⟨c', acc, rfl, hc', ha⟩ hi
      have hi2 : i < L.length := by
        have := (List.getElem?_eq_some_iff.mp hi).1
        rwa [pr_len] at this
      refine ⟨decide_eq_true (by unfold lstAt; rw [g0]), ?_⟩
      obtain ⟨r, c'', r1, hc'', d⟩ := draw_ok (k := k) h4 (S := S.set s c' ++ (G ++ [Cell.lst (pr acc)])) (B_s hs) hc' (by omega) (b := 3) (by omega) (by omega)
      have d : callN Γ (k + 1) i__law_draw [.loc s, .int 3] (S.set s c' ++ (G ++ [Cell.lst (pr acc)])) = .ok (.int (r : Nat)) ((S.set s c' ++ (G ++ [Cell.lst (pr acc)])).set s c'') := d
      obtain ⟨q, rfl⟩ : ∃ q : Int × Int, x = .tup [.int q.1, .int q.2] := by
        unfold pr at hi
        rw [List.getElem?_map] at hi
        obtain ⟨q, _, rfl⟩ := Option.map_eq_some_iff.mp hi
        exact ⟨q, rfl⟩
      have gk : ∀ dd : D, dd.cl (S.set s c' ++ (G ++ [Cell.lst (pr acc)])).length = true → gc (S.set s c' ++ (G ++ [Cell.lst (pr acc)])) dd ((S.set s c' ++ (G ++ [Cell.lst (pr acc)])).set s c'') = .ok dd ((S.set s c' ++ (G ++ [Cell.lst (pr acc)])).set s c'') := fun dd hd => gc_set0 hc''.cl hd
      by_cases h0 : r = 0
      · have tn : turnC (callN Γ (k + 1)) (.var 12) (.nm 12) (.some (.cmp .Eq (.call i__law_draw (.cons (.var 0) (.cons (.con (.int 3)) (.nil)))) (.con (.int 0)))) (pEnv (.loc s) (.int R) (.int C) (.int w) (S.length + j) o5 none none none none) (.tup [.int q.1, .int q.2]) (S.set s c' ++ (G ++ [Cell.lst (pr acc)])) = .ok (some (.tup [.int q.1, .int q.2])) ((S.set s c' ++ (G ++ [Cell.lst (pr acc)])).set s c'') := by
          generalize (S.set s c' ++ (G ++ [Cell.lst (pr acc)])).set s c'' = V at *
          generalize S.set s c' ++ (G ++ [Cell.lst (pr acc)]) = U at *
          simp [turnC, bindT, slotsT, wipeE, evC, tru, d, h0]
        refine ⟨S.set s c'' ++ (G ++ [Cell.lst (pr (acc ++ [q]))]), ?_, c'', acc ++ [q], rfl, hc''.mono (by omega), by rw [List.length_append, List.length_singleton]; omega⟩
        unfold oneC
        rw [tn]
        show (gc _ _ _).bind _ = _
        rw [gk (.tup [.int q.1, .int q.2]) rfl, bind_ok, B_set hs]
        have z : (S.set s c'' ++ (G ++ [Cell.lst (pr acc)]))[S.length + G.length]? = some (.lst (pr acc)) := by rw [B_get]; simp
        have z2 : (S.set s c'' ++ (G ++ [Cell.lst (pr acc)])).set (S.length + G.length) (.lst (pr acc ++ [.tup [.int q.1, .int q.2]])) = S.set s c'' ++ (G ++ [Cell.lst (pr (acc ++ [q]))]) := by
          rw [B_new]
          simp [pr]
        simp only [z, z2]
        rw [if_pos (by rw [pr_len, sizeLine_eq]; omega)]
      · have tn : turnC (callN Γ (k + 1)) (.var 12) (.nm 12) (.some (.cmp .Eq (.call i__law_draw (.cons (.var 0) (.cons (.con (.int 3)) (.nil)))) (.con (.int 0)))) (pEnv (.loc s) (.int R) (.int C) (.int w) (S.length + j) o5 none none none none) (.tup [.int q.1, .int q.2]) (S.set s c' ++ (G ++ [Cell.lst (pr acc)])) = .ok none ((S.set s c' ++ (G ++ [Cell.lst (pr acc)])).set s c'') := by
          generalize (S.set s c' ++ (G ++ [Cell.lst (pr acc)])).set s c'' = V at *
          generalize S.set s c' ++ (G ++ [Cell.lst (pr acc)]) = U at *
          simp [turnC, bindT, slotsT, wipeE, evC, tru, d, h0]
        refine ⟨S.set s c'' ++ (G ++ [Cell.lst (pr acc)]), ?_, c'', acc, rfl, hc''.mono (by omega), by omega⟩
        unfold oneC
        rw [tn]
        show (gc _ _ _).bind _ = _
        rw [gk .non rfl, bind_ok, B_set hs]
    · rintro S' ⟨c', acc, rfl, _⟩
      exact decide_eq_true (by unfold lstAt; rw [g0])
  obtain ⟨S', e1, c', acc, rfl, hc', ha⟩ := turns
  rw [pr_len] at hc' ha
  refine ⟨c', G ++ [Cell.lst (pr acc)], G.length, acc, hc'.mono (by omega), ?_, by simp⟩
  have g1 : (S.set s c1 ++ G)[S.length + j]? = some (.lst (pr L)) := by rw [B_get]; exact hj
  have ei : evI (callN Γ (k + 1)) (.val (.var 4)) (pEnv (.loc s) (.int R) (.int C) (.int w) (S.length + j) o5 none none none none) (S.set s c1 ++ G) = .ok (pr L, .lst (S.length + j) (pr L)) (S.set s c1 ++ G) := by
    generalize S.set s c1 ++ G = U at *
    simp [walkOf, seqOf, lstAt, g1, srcOf]
  have lc : evE (callN Γ (k + 1)) (.lc (.var 12) (.nm 12) (.val (.var 4)) (.some (.cmp .Eq (.call i__law_draw (.cons (.var 0) (.cons (.con (.int 3)) (.nil)))) (.con (.int 0))))) (pEnv (.loc s) (.int R) (.int C) (.int w) (S.length + j) o5 none none none none) (S.set s c1 ++ G) = .ok (.loc (S.length + G.length)) (S.set s c' ++ (G ++ [Cell.lst (pr acc)])) := by
    rw [ev_lc, ei, bind_ok, B_len, B_app]
    show (loopC (.lst (S.length + j) (pr L)) _ _ (pr L) (S.set s c1 ++ (G ++ [Cell.lst (pr [])]))).bind _ = _
    rw [e1, bind_ok]
  rw [xlp11]
  generalize S.set s c' ++ (G ++ [Cell.lst (pr acc)]) = V at *
  generalize S.set s c1 ++ G = U at *
  simp [lc]
theorem PFin.fin {F : Fns} {o : OutS} {m m' : Nat} (h : PFin S s m o) (e : m ≤ m') {f : Env → Store → OutS} : ∃ c' L, SrcC c' m' ∧ gcO S (bodyO (o.bind f)) = .ok (.loc S.length) (S.set s c' ++ [Cell.lst (pr L)]) := by
  obtain ⟨c', G, j, L, hc, rfl, hj⟩ := h
  refine ⟨c', L, hc.mono e, ?_⟩
  show gc S (.loc (S.length + j)) (S.set s c' ++ G) = _
  exact gc_setN hc.cl hj (by rw [cl_lst]; exact cls_pr _ _)
/-- the pattern: some list of cells -/
theorem pat_ok (h3 : Γ i__law_pattern = some f__law_pattern) (h4 : Γ i__law_draw = some f__law_draw) (h5 : Γ i__law_shuffled = some f__law_shuffled) (hs : S[s]? = some c) (hc : SrcC c m) (hm : m < 10 ^ 13) (hR : 0 < R) (hR2 : R < 13) (hC : 0 < C) (hC2 : C < 13) :
    ∃ c' L, SrcC c' (m + 300) ∧ callN Γ (k + 3) i__law_pattern [.loc s, .int R, .int C] S = .ok (.loc S.length) (S.set s c' ++ [Cell.lst (pr L)]) := by
  obtain ⟨w, c1, w9, hc1, d1⟩ := draw_ok (k := k + 1) h4 hs hc (by omega) (b := 9) (by omega) (by omega)
  have d1 : callN Γ (k + 2) i__law_draw [.loc s, .int 9] S = .ok (.int (w : Nat)) (S.set s c1) := d1
  have s1 : evS (callN Γ (k + 2)) xlp1 [some (.loc s), some (.int R), some (.int C), none, none, none, none, none, none, none, none, none, none] S = .nx [some (.loc s), some (.int R), some (.int C), some (.int w), none, none, none, none, none, none, none, none, none] (S.set s c1) := by
    simp [d1]
  have s2 : evS (callN Γ (k + 2)) xlp2 [some (.loc s), some (.int R), some (.int C), some (.int w), none, none, none, none, none, none, none, none, none] (S.set s c1) = .nx (pEnv (.loc s) (.int R) (.int C) (.int w) ((S.set s c1).length + 0) none none none none none) (S.set s c1 ++ [Cell.lst (pr [])]) := by
    simp [pr]
  obtain ⟨G, j, L, o5, hj, hL, s3⟩ := pat3 (F := callN Γ (k + 2)) (B := S.set s c1) hR2 hC2 (s := .loc s) (w := .int w)
  rw [List.length_set] at s3
  have hL0 : 0 < L.length := by rw [hL]; exact Nat.mul_pos hR hC
  have hL1 : L.length < 200 := by
    rw [hL]
    have : R * C ≤ 12 * 12 := Nat.mul_le_mul (by omega) (by omega)
    omega
  rw [callN_eq h3 rfl]
  show ∃ c' L, SrcC c' (m + 300) ∧ gcO S (bodyO (evSs (callN Γ (k + 2)) f__law_pattern.body [some (.loc s), some (.int R), some (.int C), none, none, none, none, none, none, none, none, none, none] S)) = _
  have bd : f__law_pattern.body = .cons xlp1 (.cons xlp2 (.cons xlp3 (.cons xlp4 (.cons xlp5 (.cons xlp6 (.cons xlp7 (.cons xlp8 (.cons xlp9 (.cons xlp10 (.cons xlp11 (.nil))))))))))) := rfl
  rw [List.length_set] at s2
  rw [bd, evss_nx s1, evss_nx s2, evss_nx s3]
  by_cases c0 : w < 2
  · rw [evss_cons]
    exact (pw_lt (Γ := Γ) (k := k + 2) (R := R) (C := C) (o5 := o5) c0 hc1 hj).fin (F := callN Γ (k + 2)) (by omega)
  rw [evss_nx (pw_lt' (k := k + 2) c0 rfl)]
  by_cases c2 : w = 2
  · rw [evss_cons]
    exact (pw_2 (Γ := Γ) (k := k + 2) (j := j) (G := G) (R := R) (C := C) (o5 := o5) c2 hc1).fin (F := callN Γ (k + 2)) (by omega)
  rw [evss_nx (pw_no (k := k + 2) (by omega) rfl)]
  by_cases c3 : w = 3
  · rw [evss_cons]
    exact (pw_3 (k := k + 1) (R := R) (C := C) (o5 := o5) h4 hs c3 hc1 (by omega) hj hL0 (by omega)).fin (F := callN Γ (k + 2)) (by omega)
  rw [evss_nx (pw_no (k := k + 2) (by omega) rfl)]
  by_cases c4 : w = 4
  · rw [evss_cons]
    exact (pw_4 (k := k) (j := j) (G := G) (o5 := o5) h4 h5 hs c4 hc1 (by omega) hR hR2 hC hC2).fin (F := callN Γ (k + 2)) (by omega)
  rw [evss_nx (pw_no (k := k + 2) (by omega) rfl)]
  by_cases c5 : w = 5
  · rw [evss_cons]
    exact (pw_5 (k := k + 1) (C := C) (o5 := o5) h4 hs c5 hc1 (by omega) hj hR (by omega) (by omega)).fin (F := callN Γ (k + 2)) (by omega)
  rw [evss_nx (pw_no (k := k + 2) (by omega) rfl)]
  by_cases c6 : w = 6
  · rw [evss_cons]
    exact (pw_6 (k := k + 1) (R := R) (o5 := o5) h4 hs c6 hc1 (by omega) hj hC (by omega) (by omega)).fin (F := callN Γ (k + 2)) (by omega)
  rw [evss_nx (pw_no (k := k + 2) (by omega) rfl)]
  by_cases c7 : w = 7
  · rw [evss_cons]
    exact (pw_7 (k := k + 1) (R := R) (C := C) (o5 := o5) h4 hs c7 hc1 (by omega) hj hL0 (by omega)).fin (F := callN Γ (k + 2)) (by omega)
  rw [evss_nx (pw_no (k := k + 2) (by omega) rfl), evss_cons]
  exact (pw_8 (k := k + 1) (R := R) (C := C) (w := w) (o5 := o5) h4 hs hc1 (by omega) hj hL1).fin (F := callN Γ (k + 2)) (by omega)
end
end Iv

set_option maxRecDepth 100000
namespace Iv
open PySem
abbrev xna1 : IS := .asg (.nm 3) (.call i__law_pattern (.cons (.var 0) (.cons (.var 1) (.cons (.var 2) (.nil)))))
abbrev xna2 : IS := .asg (.nm 4) (.call i__law_draw (.cons (.var 0) (.cons (.con (.int 6)) (.nil))))
abbrev xna3 : IS := .asg (.nm 5) (.call i__law_draw (.cons (.var 0) (.cons (.con (.int 26)) (.nil))))
abbrev xna4 : IS := .asg (.nm 6) (.call i__law_shuffled (.cons (.var 0) (.cons (.lrange (.cons (.bin .Mult (.var 1) (.var 2)) (.nil))) (.nil))))
abbrev xna5 : IS := .asg (.nm 7) (.lst (.nil))
abbrev xna6 : IS := .for_ (.nm 8) (.range (.cons (.var 1) (.nil))) (.cons (.asg (.nm 9) (.lst (.nil))) (.cons (.for_ (.nm 10) (.range (.cons (.var 2) (.nil))) (.cons (.asg (.nm 11) (.call i__law_name (.cons (.var 4) (.cons (.var 5) (.cons (.ix (.var 6) (.bin .Add (.bin .Mult (.var 8) (.var 2)) (.var 10))) (.nil)))))) (.cons (.ife (.cmp .In (.tup (.cons (.var 8) (.cons (.var 10) (.nil)))) (.var 3)) (.cons (.asg (.nm 11) (.bin .Add (.bm .upper (.ix (.var 11) (.con (.int 0))) (.nil)) (.slc (.var 11) (.some (.con (.int 1))) (.none)))) (.nil)) (.nil)) (.cons (.expr (.bm .append (.var 9) (.cons (.var 11) (.nil)))) (.nil))))) (.cons (.expr (.bm .append (.var 7) (.cons (.bf .tuple (.cons (.var 9) (.nil))) (.nil)))) (.nil))))
abbrev xna7 : IS := .ret (.some (.bf .tuple (.cons (.var 7) (.nil))))
/-! ### floors -/
theorem nmC_ok (st sh n : Nat) : ∃ c r, nmC st sh n = c :: r ∧ (97 ≤ c ∧ c < 123) ∧ r.length ≤ 5 ∧ ∀ x ∈ r, 97 ≤ x ∧ x < 123 := by
  have h1 : 97 ≤ nf sh n ∧ nf sh n < 123 := by unfold nf; have := Nat.mod_lt (n + sh) (show 0 < 26 by omega); omega
  have h2 : 97 ≤ ns sh n ∧ ns sh n < 123 := by unfold ns; have := Nat.mod_lt (n / 26 + 2 * sh) (show 0 < 26 by omega); omega
  have h3 := Nat.mod_lt n (show 0 < 3 by omega)
  unfold nmC
  split
  · refine ⟨_, _, rfl, h1, by rw [List.length_replicate]; split <;> omega, fun x hx => by rw [(List.mem_replicate.mp hx).2]; exact h2⟩
  · refine ⟨_, _, rfl, h2, by simp, fun x hx => by simp at hx; subst hx; exact h1⟩
  · refine ⟨_, _, rfl, by omega, by simp, fun x hx => by simp at hx; rcases hx with rfl | rfl | rfl <;> omega⟩
  · refine ⟨_, _, rfl, h1, by simp, fun x hx => by simp at hx; rcases hx with rfl | rfl | rfl <;> omega⟩
  · refine ⟨_, _, rfl, h1, by rw [List.length_cons, List.length_replicate]; omega, fun x hx => by
      rcases List.mem_cons.mp hx with rfl | hx
      · exact h2
      · rw [(List.mem_replicate.mp hx).2]; exact h2⟩
  · refine ⟨_, _, rfl, h2, by simp, fun x hx => by simp at hx; rcases hx with rfl | rfl | rfl | rfl <;> omega⟩
/-- an item: a name, its first letter in upper case or not -/
def item (st sh : Nat) (p : Bool × Nat) : List Nat := match nmC st sh p.2 with
  | [] => []
  | c :: r => (if p.1 then c - 32 else c) :: r
def itm (st sh : Nat) (p : Bool × Nat) : Str := cS (item st sh p)
theorem up_ok : ∀ i : Nat, i < 26 → Txt.upper (cS [97 + i]) = cS [65 + i] := by decide +kernel
theorem upD_ok {c : Nat} (h : 97 ≤ c ∧ c < 123) {S : Store} : bmD .upper (.str (cS [c])) [] S = .ok (.str (cS [c - 32])) S := by
  show (if (cS [c]).length ≤ 5000000 then Out.ok (D.str (Txt.upper (cS [c]))) S else .bad) = _
  rw [if_pos (by rw [cS_len]; exact (by decide : 1 ≤ 5000000))]
  have := up_ok (c - 97) (by omega)
  rw [show 97 + (c - 97) = c by omega, show 65 + (c - 97) = c - 32 by omega] at this
  rw [this]
theorem slc_cS {l : List Nat} {i : Nat} {S : Store} (h : l.length < 1000) : slD (.str (cS l)) (some (i : Int)) none S = .ok (.str (cS (l.drop i))) S := by
  show (if (cS l).length ≤ sizeLine then Out.ok (D.str ⟨(cutL (cS l).cps.toList (some (i : Int)) none).toArray⟩) S else .bad) = _
  rw [if_pos (by rw [cS_len, sizeLine_eq]; omega), cut_from]
  rfl
theorem mapO_pr {S : Store} {n : Nat} : ∀ L : List (Int × Int), mapO (toPy S (n + 1)) (pr L) = some (L.map fun q => PyData.tuple [.int q.1, .int q.2])
  | [] => rfl
  | q :: L => by
    have e : toPy S (n + 1) (.tup [.int q.1, .int q.2]) = some (.tuple [.int q.1, .int q.2]) := by cases n <;> rfl
    show mapO (toPy S (n + 1)) (.tup [.int q.1, .int q.2] :: pr L) = _
    simp only [mapO, e, mapO_pr L, List.map_cons]
theorem in_pr {S : Store} {n : Nat} {L : List (Int × Int)} {i j : Int} (h : S[n]? = some (.lst (pr L))) : ∃ b, cmpD .In (.tup [.int i, .int j]) (.loc n) S = some b := by
  refine ⟨(L.map fun q => PyData.tuple [.int q.1, .int q.2]).any fun z => PyData.eqv z (.tuple [.int i, .int j]), ?_⟩
  show inD (.tup [.int i, .int j]) (.loc n) S = _
  simp only [inD, h]
  show (match toPy S 8 (.tup [.int i, .int j]), mapO (toPy S 8) (pr L) with
    | some d, some ds => some (ds.any fun z => PyData.eqv z d)
    | _, _ => none) = _
  rw [mapO_pr]
  rfl
def fd (fl : List (List Str)) : List D := fl.map fun r => .tup (sd r)
theorem fd_len (fl : List (List Str)) : (fd fl).length = fl.length := by simp [fd]
theorem cls_fd (n : Nat) (fl : List (List Str)) : D.cls n (fd fl) = true := by
  rw [cls_mem]
  intro y hy
  obtain ⟨z, _, rfl⟩ := List.mem_map.mp hy
  exact cls_sd _ _
theorem mul_small {a b : Nat} (ha : a < 1000) (hb : b < 1000) : opI .Mult (a : Int) (b : Int) = some ((a * b : Nat) : Int) := by
  rw [opi_mul]
  · congr 1
  · have h1 : (a : Int).natAbs.log2 ≤ 1000 := by rw [Int.natAbs_natCast]; exact Nat.le_trans (Nat.log2_le_self _) (by omega)
    have h2 : (b : Int).natAbs.log2 ≤ 1000 := by rw [Int.natAbs_natCast]; exact Nat.le_trans (Nat.log2_le_self _) (by omega)
    omega
section
variable {Γ : Nat → Option FDef} {k : Nat} {T : Store} {R C st sh : Nat} {L : List (Int × Int)} {u : List Nat} {s : D} {n3 n6 n7 n9 : Nat}
abbrev nEnv (s : D) (R C st sh n3 n6 n7 : Nat) (o8 o9 o10 o11 : Option D) : Env := [some s, some (.int R), some (.int C), some (.loc n3), some (.int st), some (.int sh), some (.loc n6), some (.loc n7), o8, o9, o10, o11]
abbrev nIn : ISs := (.cons (.asg (.nm 11) (.call i__law_name (.cons (.var 4) (.cons (.var 5) (.cons (.ix (.var 6) (.bin .Add (.bin .Mult (.var 8) (.var 2)) (.var 10))) (.nil)))))) (.cons (.ife (.cmp .In (.tup (.cons (.var 8) (.cons (.var 10) (.nil)))) (.var 3)) (.cons (.asg (.nm 11) (.bin .Add (.bm .upper (.ix (.var 11) (.con (.int 0))) (.nil)) (.slc (.var 11) (.some (.con (.int 1))) (.none)))) (.nil)) (.nil)) (.cons (.expr (.bm .append (.var 9) (.cons (.var 11) (.nil)))) (.nil))))
theorem row_ok (hn : Γ i__law_name = some f__law_name) (g3 : T[n3]? = some (.lst (pr L))) (g6 : T[n6]? = some (.lst ((u.map fun x : Nat => (x : Int)).map D.int))) (hm : n9 < T.length) (ne3 : n9 ≠ n3) (ne6 : n9 ≠ n6) (hC : C < 13) (hst : st < 6) (hsh : sh < 26) (hu : ∀ x ∈ u, x < 200) {i : Nat} (hi : i < 13) (hl : i * C + C ≤ u.length) {o10 o11 : Option D} :
    ∃ (o o' : Option D) (us : List (Bool × Nat)), (us.map (·.2)) = (u.drop (i * C)).take C ∧ evS (callN Γ (k + 1)) (.for_ (.nm 10) (.range (.cons (.var 2) (.nil))) nIn) (nEnv s R C st sh n3 n6 n7 (some (.int i)) (some (.loc n9)) o10 o11) (T.set n9 (.lst (sd []))) =
      .nx (nEnv s R C st sh n3 n6 n7 (some (.int i)) (some (.loc n9)) o o') (T.set n9 (.lst (sd (us.map (itm st sh))))) := by
  have key := loopF_all (src := .free) (f := fun x ρ S => (asgT (callN Γ (k + 1)) (.nm 10) x ρ S).bindS (fun ρ' S' => evSs (callN Γ (k + 1)) nIn ρ' S')) (xs := rangeL 0 C) (ρ := nEnv s R C st sh n3 n6 n7 (some (.int i)) (some (.loc n9)) o10 o11) (S := T.set n9 (.lst (sd [])))
    (fun j ρ S' => ∃ (o o' : Option D) (us : List (Bool × Nat)), ρ = nEnv s R C st sh n3 n6 n7 (some (.int i)) (some (.loc n9)) o o' ∧ S' = T.set n9 (.lst (sd (us.map (itm st sh)))) ∧ us.map (·.2) = (u.drop (i * C)).take j) ⟨o10, o11, [], rfl, rfl, rfl⟩
    (fun j x ρ S' ⟨o, o', us, e1, e2, e3⟩ hj => ?_) (fun _ _ _ => rfl)
  · obtain ⟨ρ', S', e0, o, o', us, e1, e2, e3⟩ := key
    subst e1 e2
    rw [rangeL_len] at e3
    refine ⟨o, o', us, e3, ?_⟩
    rw [st_for', rng_ok (n := C) rfl (by omega)]
    exact e0
  · subst e1 e2
    obtain ⟨rfl, hj2⟩ := rangeL_get hj
    rw [Int.zero_add]
    obtain ⟨n, hn2⟩ : ∃ n, u[i * C + j]? = some n := ⟨_, List.getElem?_eq_getElem (by omega)⟩
    have n200 := hu n (List.mem_of_getElem? hn2)
    have G3 : (T.set n9 (.lst (sd (us.map (itm st sh)))))[n3]? = some (.lst (pr L)) := by rw [set_get' ne3]; exact g3
    have G6 : (T.set n9 (.lst (sd (us.map (itm st sh)))))[n6]? = some (.lst ((u.map fun x : Nat => (x : Int)).map D.int)) := by rw [set_get' ne6]; exact g6
    have G9 : (T.set n9 (.lst (sd (us.map (itm st sh)))))[n9]? = some (.lst (sd (us.map (itm st sh)))) := set_get hm
    obtain ⟨b, hb⟩ := in_pr (i := i) (j := j) G3
    have ul : us.length = j := by
      have := congrArg List.length e3
      rw [List.length_map, List.length_take, List.length_drop] at this
      omega
    have mu := mul_small (a := i) (b := C) (by omega) (by omega)
    have ad : ((i * C : Nat) : Int) + (j : Nat) = ((i * C + j : Nat) : Int) := by omega
    have hx : ((u.map fun x : Nat => (x : Int)).map D.int)[i * C + j]? = some (.int (n : Nat)) := by
      rw [List.getElem?_map, List.getElem?_map, hn2]
      rfl
    have nm := name_ok (k := k) hn hst hsh n200 (T.set n9 (.lst (sd (us.map (itm st sh)))))
    obtain ⟨c, r, hc, hc2, hr, _⟩ := nmC_ok st sh n
    rw [hc] at nm
    have hlen : (c :: r).length < 1000 := by rw [List.length_cons]; omega
    have i0 : ∀ S, ixD (.str (cS (c :: r))) (.int 0) S = some (.str (cS [c])) := fun S => by rw [ix_cS hlen, ixAt_0]; rfl
    have sl : ∀ S, slD (.str (cS (c :: r))) (some 1) none S = .ok (.str (cS r)) S := fun S => slc_cS (i := 1) hlen
    have ap := fun d : Str => appD_ok (d := .str d) G9 (by rw [sd_len, List.length_map, sizeLine_eq]; omega)
    have e4 : itm st sh (b, n) = cS ((if b then c - 32 else c) :: r) := by
      unfold itm item
      rw [hc]
    have e5 : ∀ d : Str, d = itm st sh (b, n) → (T.set n9 (.lst (sd (us.map (itm st sh))))).set n9 (.lst (sd (us.map (itm st sh)) ++ [.str d])) = T.set n9 (.lst (sd ((us ++ [(b, n)]).map (itm st sh)))) := fun d hd => by
      subst hd
      rw [List.set_set]
      simp [sd]
    refine ⟨rfl, _, T.set n9 (.lst (sd ((us ++ [(b, n)]).map (itm st sh)))), .inl (?_ : _ = OutS.nx (nEnv s R C st sh n3 n6 n7 (some (.int i)) (some (.loc n9)) (some (.int j)) (some (.str (itm st sh (b, n))))) _), _, _, us ++ [(b, n)], rfl, rfl, ?_⟩
    · cases b with
      | false =>
        have e4 : itm st sh (false, n) = cS (c :: r) := e4
        have ap := ap (cS (c :: r))
        rw [e5 _ e4.symm] at ap
        rw [e4]
        generalize T.set n9 (.lst (sd ((us ++ [(false, n)]).map (itm st sh)))) = V at *
        generalize T.set n9 (.lst (sd (us.map (itm st sh)))) = U at *
        generalize i * C + j = q at *
        generalize i * C = ic at *
        simp [mu, ad, G6, hn2, nm, hb, tru, appK_ok G9, ap]
      | true =>
        have e4 : itm st sh (true, n) = cS ((c - 32) :: r) := e4
        have ap := ap (cS ((c - 32) :: r))
        rw [e5 _ e4.symm] at ap
        rw [e4]
        have up := fun S => upD_ok (S := S) hc2
        have uk : ∀ S, bmK .upper (.str (cS [c])) S = true := fun S => rfl
        have aa : ∀ S, opD .Add (.str (cS [c - 32])) (.str (cS r)) S = .ok (.str (cS ((c - 32) :: r))) S := fun S => add_cS (by rw [List.length_singleton]; omega)
        generalize T.set n9 (.lst (sd ((us ++ [(true, n)]).map (itm st sh)))) = V at *
        generalize T.set n9 (.lst (sd (us.map (itm st sh)))) = U at *
        generalize i * C + j = q at *
        generalize i * C = ic at *
        simp [mu, ad, G6, hn2, nm, hb, tru, appK_ok G9, ap, i0, sl, up, uk, aa]
    · rw [List.map_append, e3, List.map_singleton]
      have : (u.drop (i * C))[j]? = some n := by rw [List.getElem?_drop]; exact hn2
      rw [List.take_succ, this]
      rfl
end
end Iv

set_option maxRecDepth 100000
namespace Iv
open PySem
theorem perm_nats {l : List Int} {n : Nat} (h : l.Perm (upto n)) : ∃ u : List Nat, l = u.map (fun x : Nat => (x : Int)) ∧ u.Perm (List.range n) := by
  refine ⟨l.map Int.toNat, ?_, ?_⟩
  · rw [List.map_map]
    conv => lhs; rw [← List.map_id l]
    refine List.map_congr_left fun x hx => ?_
    obtain ⟨i, _, rfl⟩ := List.mem_map.mp (h.subset hx)
    rfl
  · have := h.map Int.toNat
    have e : (upto n).map Int.toNat = List.range n := by
      unfold upto
      rw [List.map_map]
      conv => rhs; rw [← List.map_id (List.range n)]
      exact List.map_congr_left fun _ _ => rfl
    rwa [e] at this
/-- a floor as made -/
structure FlN (R C st sh : Nat) (us : List (Bool × Nat)) (fl : List (List Str)) : Prop where
  len : fl.length = R
  wd : ∀ r ∈ fl, r.length = C
  flat : fl.flatten = us.map (itm st sh)
  perm : (us.map (·.2)).Perm (List.range (R * C))
section
variable {Γ : Nat → Option FDef} {k : Nat} {T : Store} {R C st sh : Nat} {L : List (Int × Int)} {u : List Nat} {s : D} {n3 n6 n7 n9 : Nat}
abbrev nOut : ISs := (.cons (.asg (.nm 9) (.lst (.nil))) (.cons (.for_ (.nm 10) (.range (.cons (.var 2) (.nil))) nIn) (.cons (.expr (.bm .append (.var 7) (.cons (.bf .tuple (.cons (.var 9) (.nil))) (.nil)))) (.nil))))
theorem rows_ok (hn : Γ i__law_name = some f__law_name) (g3 : T[n3]? = some (.lst (pr L))) (g6 : T[n6]? = some (.lst ((u.map fun x : Nat => (x : Int)).map D.int))) (hm : n7 < T.length) (ne3 : n7 ≠ n3) (ne6 : n7 ≠ n6) (hR : R < 13) (hC : C < 13) (hst : st < 6) (hsh : sh < 26) (hu : u.Perm (List.range (R * C))) :
    ∃ (o8 o9 o10 o11 : Option D) (G : Store) (us : List (Bool × Nat)) (fl : List (List Str)), FlN R C st sh us fl ∧ evS (callN Γ (k + 1)) xna6 (nEnv s R C st sh n3 n6 n7 none none none none) (T.set n7 (.lst (fd []))) = .nx (nEnv s R C st sh n3 n6 n7 o8 o9 o10 o11) (T.set n7 (.lst (fd fl)) ++ G) := by
  have l3 := (List.getElem?_eq_some_iff.mp g3).1
  have l6 := (List.getElem?_eq_some_iff.mp g6).1
  have ul : u.length = R * C := by rw [hu.length_eq, List.length_range]
  have RC : R * C ≤ 12 * 12 := Nat.mul_le_mul (by omega) (by omega)
  have u200 : ∀ x ∈ u, x < 200 := fun x hx => by
    have := List.mem_range.mp (hu.subset hx)
    omega
  have key := loopF_all (src := .free) (f := fun x ρ S => (asgT (callN Γ (k + 1)) (.nm 8) x ρ S).bindS (fun ρ' S' => evSs (callN Γ (k + 1)) nOut ρ' S')) (xs := rangeL 0 R) (ρ := nEnv s R C st sh n3 n6 n7 none none none none) (S := T.set n7 (.lst (fd [])) ++ [])
    (fun i ρ S' => ∃ (o8 o9 o10 o11 : Option D) (G : Store) (us : List (Bool × Nat)) (fl : List (List Str)), ρ = nEnv s R C st sh n3 n6 n7 o8 o9 o10 o11 ∧ S' = T.set n7 (.lst (fd fl)) ++ G ∧ fl.length = i ∧ (∀ r ∈ fl, r.length = C) ∧ fl.flatten = us.map (itm st sh) ∧ us.map (·.2) = u.take (i * C)) ⟨none, none, none, none, [], [], [], rfl, rfl, rfl, (fun _ h => by cases h), rfl, by simp⟩
    (fun i x ρ S' ⟨o8, o9, o10, o11, G, us, fl, e1, e2, e3, e4, e5, e6⟩ hi => ?_) (fun _ _ _ => rfl)
  · obtain ⟨ρ', S', e0, o8, o9, o10, o11, G, us, fl, e1, e2, e3, e4, e5, e6⟩ := key
    subst e1 e2
    rw [rangeL_len] at e3 e6
    rw [List.take_of_length_le (by omega)] at e6
    rw [List.append_nil] at e0
    refine ⟨o8, o9, o10, o11, G, us, fl, ⟨e3, e4, e5, by rw [e6]; exact hu⟩, ?_⟩
    rw [xna6, st_for', rng_ok (n := R) rfl (by omega)]
    exact e0
  · subst e1 e2
    obtain ⟨rfl, hi2⟩ := rangeL_get hi
    rw [Int.zero_add]
    refine ⟨rfl, ?_⟩
    generalize hW : T.set n7 (.lst (fd fl)) ++ G = W
    have wl : n7 < W.length := by rw [← hW, List.length_append, List.length_set]; omega
    have G3 : W[n3]? = some (.lst (pr L)) := by rw [← hW]; exact get_old (by rw [set_get' ne3]; exact g3)
    have G6 : W[n6]? = some (.lst ((u.map fun x : Nat => (x : Int)).map D.int)) := by rw [← hW]; exact get_old (by rw [set_get' ne6]; exact g6)
    have w3 : n3 < W.length := (List.getElem?_eq_some_iff.mp G3).1
    have w6 : n6 < W.length := (List.getElem?_eq_some_iff.mp G6).1
    have iC : i * C + C ≤ u.length := by
      rw [ul]
      have : (i + 1) * C ≤ R * C := Nat.mul_le_mul_right C hi2
      rw [Nat.succ_mul] at this
      exact this
    obtain ⟨o, o', us', f1, f2⟩ := row_ok (k := k) (T := W ++ [.lst (sd [])]) (s := s) (n7 := n7) (n9 := W.length) hn (get_old G3) (get_old G6) (by simp) (by omega) (by omega) hC hst hsh u200 (i := i) (by omega) iC (o10 := o10) (o11 := o11)
    have z0 : ∀ c, (W ++ [Cell.lst (sd [])]).set W.length c = W ++ [c] := fun c => by
      have := set_new0 (S := W) (T := [Cell.lst (sd [])]) (c := c)
      rw [this]
      rfl
    rw [z0, z0] at f2
    have g9 : (W ++ [Cell.lst (sd (us'.map (itm st sh)))])[W.length]? = some (.lst (sd (us'.map (itm st sh)))) := by rw [get_app0]; rfl
    have g7 : (W ++ [Cell.lst (sd (us'.map (itm st sh)))])[n7]? = some (.lst (fd fl)) := by
      rw [← hW]
      exact get_old (get_old (set_get hm))
    have ap := appD_ok (d := .tup (sd (us'.map (itm st sh)))) g7 (by rw [fd_len, sizeLine_eq]; omega)
    have z1 : (W ++ [Cell.lst (sd (us'.map (itm st sh)))]).set n7 (.lst (fd fl ++ [.tup (sd (us'.map (itm st sh)))])) = T.set n7 (.lst (fd (fl ++ [us'.map (itm st sh)]))) ++ (G ++ [.lst (sd (us'.map (itm st sh)))]) := by
      rw [set_app wl, ← hW, set_app (by rw [List.length_set]; exact hm), List.set_set, List.append_assoc]
      simp [fd]
    rw [z1] at ap
    refine ⟨_, _, .inl (?_ : _ = OutS.nx (nEnv s R C st sh n3 n6 n7 (some (.int i)) (some (.loc W.length)) o o') (T.set n7 (.lst (fd (fl ++ [us'.map (itm st sh)]))) ++ (G ++ [.lst (sd (us'.map (itm st sh)))]))), some (.int i), some (.loc W.length), o, o', G ++ [.lst (sd (us'.map (itm st sh)))], us ++ us', fl ++ [us'.map (itm st sh)], rfl, rfl, ?_, ?_, ?_, ?_⟩
    · have e9 : W ++ [Cell.lst []] = W ++ [.lst (sd [])] := rfl
      generalize T.set n7 (.lst (fd (fl ++ [us'.map (itm st sh)]))) ++ (G ++ [.lst (sd (us'.map (itm st sh)))]) = V at *
      generalize W ++ [Cell.lst (sd (us'.map (itm st sh)))] = U at *
      generalize W ++ [Cell.lst (sd [])] = U0 at *
      have q1 : evS (callN Γ (k + 1)) (.asg (.nm 9) (.lst .nil)) (nEnv s R C st sh n3 n6 n7 (some (.int i)) o9 o10 o11) W = .nx (nEnv s R C st sh n3 n6 n7 (some (.int i)) (some (.loc W.length)) o10 o11) U0 := by simp [e9]
      have q0 : asgT (callN Γ (k + 1)) (.nm 8) (.int i) (nEnv s R C st sh n3 n6 n7 o8 o9 o10 o11) W = .ok (nEnv s R C st sh n3 n6 n7 (some (.int i)) o9 o10 o11) W := rfl
      rw [q0, bindS_ok, nOut, evss_nx q1, evss_nx f2]
      simp [appK_ok g7, tup_loc g9, ap]
    · rw [List.length_append, e3]; rfl
    · intro r hr
      rcases List.mem_append.mp hr with hr | hr
      · exact e4 r hr
      · rw [List.mem_singleton.mp hr, List.length_map]
        have := congrArg List.length f1
        rw [List.length_map, List.length_take, List.length_drop] at this
        omega
    · rw [List.flatten_append, e5]
      simp
    · rw [List.map_append, e6, f1, Nat.succ_mul, List.take_add]
end
section
variable {Γ : Nat → Option FDef} {k : Nat} {S : Store} {s m : Nat} {c : Cell} {R C : Nat}
/-- a floor with names -/
theorem named_ok (h0 : Γ i__law_named = some f__law_named) (h1 : Γ i__law_name = some f__law_name) (h3 : Γ i__law_pattern = some f__law_pattern) (h4 : Γ i__law_draw = some f__law_draw) (h5 : Γ i__law_shuffled = some f__law_shuffled) (hs : S[s]? = some c) (hc : SrcC c m) (hm : m < 10 ^ 12) (hR : 0 < R) (hR2 : R < 13) (hC : 0 < C) (hC2 : C < 13) :
    ∃ st sh us fl c', st < 6 ∧ sh < 26 ∧ FlN R C st sh us fl ∧ SrcC c' (m + 1000) ∧ callN Γ (k + 4) i__law_named [.loc s, .int R, .int C] S = .ok (.tup (fd fl)) (S.set s c') := by
  have RC : R * C ≤ 12 * 12 := Nat.mul_le_mul (by omega) (by omega)
  obtain ⟨c1, L, hc1, d1⟩ := pat_ok (k := k) h3 h4 h5 hs hc (by omega) hR hR2 hC hC2
  obtain ⟨st, c2, w2, hc2, d2⟩ := draw_ok (k := k + 2) h4 (S := S.set s c1 ++ [.lst (pr L)]) (B_s hs) hc1 (by omega) (b := 6) (by omega) (by omega)
  rw [B_set hs] at d2
  obtain ⟨sh, c3, w3, hc3, d3⟩ := draw_ok (k := k + 2) h4 (S := S.set s c2 ++ [.lst (pr L)]) (B_s hs) hc2 (by omega) (b := 26) (by omega) (by omega)
  rw [B_set hs] at d3
  have mu := mul_small (a := R) (b := C) (by omega) (by omega)
  have me : evE (callN Γ (k + 3)) (.bin .Mult (.var 1) (.var 2)) [some (.loc s), some (.int R), some (.int C), some (.loc S.length), some (.int st), some (.int sh), none, none, none, none, none, none] (S.set s c3 ++ [.lst (pr L)]) = .ok (.int (R * C : Nat)) (S.set s c3 ++ [.lst (pr L)]) := by
    generalize S.set s c3 ++ [.lst (pr L)] = U
    generalize R * C = q at *
    simp [mu]
  have lr := ev_lrange me (by omega)
  rw [B_len, B_app] at lr
  obtain ⟨ys, c4, p4, hc4, d4⟩ := shuf_ok (k := k + 1) h5 h4 (S := S.set s c3 ++ ([.lst (pr L)] ++ [.lst ((upto (R * C)).map D.int)])) (B_s hs) hc3 (d := .loc (S.length + 1)) (xs := (upto (R * C)).map D.int) (seq_loc (by rw [B_get]; rfl)) (cls_ints _ _) (by rw [List.length_map, upto_len]; omega) (by rw [List.length_map, upto_len]; omega)
  rw [B_set hs, B_app, B_len] at d4
  rw [List.length_map, upto_len] at hc4
  obtain ⟨l, rfl, pl⟩ := perm_ints p4
  obtain ⟨u, rfl, pu⟩ := perm_nats pl
  have d2 : callN Γ (k + 3) i__law_draw [.loc s, .int 6] (S.set s c1 ++ [.lst (pr L)]) = .ok (.int (st : Nat)) (S.set s c2 ++ [.lst (pr L)]) := d2
  have d3 : callN Γ (k + 3) i__law_draw [.loc s, .int 26] (S.set s c2 ++ [.lst (pr L)]) = .ok (.int (sh : Nat)) (S.set s c3 ++ [.lst (pr L)]) := d3
  let G0 : Store := [.lst (pr L)] ++ [.lst ((upto (R * C)).map D.int)] ++ [.lst ((u.map fun x : Nat => (x : Int)).map D.int)]
  have hG0 : G0 = [.lst (pr L)] ++ [.lst ((upto (R * C)).map D.int)] ++ [.lst ((u.map fun x : Nat => (x : Int)).map D.int)] := rfl
  obtain ⟨o8, o9, o10, o11, G, us, fl, hf, s6⟩ := rows_ok (k := k + 2) (T := S.set s c4 ++ (G0 ++ [.lst (fd [])])) (s := .loc s) (n3 := S.length) (n6 := S.length + 2) (n7 := S.length + 3) (L := L) (u := u) h1 (B_get (j := 0)) (by rw [B_get]; rfl) (by rw [B_len]; exact Nat.add_lt_add_left (by decide : 3 < 4) _) (by omega) (by omega) hR2 hC2 w2 w3 pu
  rw [B_new, B_new, B_app] at s6
  refine ⟨st, sh, us, fl, c4, w2, w3, hf, hc4.mono (by omega), ?_⟩
  have s1 : evS (callN Γ (k + 3)) xna1 [some (.loc s), some (.int R), some (.int C), none, none, none, none, none, none, none, none, none] S = .nx [some (.loc s), some (.int R), some (.int C), some (.loc S.length), none, none, none, none, none, none, none, none] (S.set s c1 ++ [.lst (pr L)]) := by
    simp [d1]
  have s2 : evS (callN Γ (k + 3)) xna2 [some (.loc s), some (.int R), some (.int C), some (.loc S.length), none, none, none, none, none, none, none, none] (S.set s c1 ++ [.lst (pr L)]) = .nx [some (.loc s), some (.int R), some (.int C), some (.loc S.length), some (.int st), none, none, none, none, none, none, none] (S.set s c2 ++ [.lst (pr L)]) := by
    simp [d2]
  have s3 : evS (callN Γ (k + 3)) xna3 [some (.loc s), some (.int R), some (.int C), some (.loc S.length), some (.int st), none, none, none, none, none, none, none] (S.set s c2 ++ [.lst (pr L)]) = .nx [some (.loc s), some (.int R), some (.int C), some (.loc S.length), some (.int st), some (.int sh), none, none, none, none, none, none] (S.set s c3 ++ [.lst (pr L)]) := by
    simp [d3]
  have s4 : evS (callN Γ (k + 3)) xna4 [some (.loc s), some (.int R), some (.int C), some (.loc S.length), some (.int st), some (.int sh), none, none, none, none, none, none] (S.set s c3 ++ [.lst (pr L)]) = .nx [some (.loc s), some (.int R), some (.int C), some (.loc S.length), some (.int st), some (.int sh), some (.loc (S.length + 2)), none, none, none, none, none] (S.set s c4 ++ G0) := by
    have d4 : callN Γ (k + 3) i__law_shuffled [.loc s, .loc (S.length + 1)] (S.set s c3 ++ ([.lst (pr L)] ++ [.lst ((upto (R * C)).map D.int)])) = .ok (.loc (S.length + 2)) (S.set s c4 ++ G0) := d4
    generalize S.set s c4 ++ G0 = U at *
    generalize S.set s c3 ++ ([Cell.lst (pr L)] ++ [.lst ((upto (R * C)).map D.int)]) = V at *
    generalize S.set s c3 ++ [Cell.lst (pr L)] = W at *
    have lr : evE (callN Γ (k + 3)) (.lrange (.cons (.bin .Mult (.var 1) (.var 2)) .nil)) [some (.loc s), some (.int R), some (.int C), some (.loc S.length), some (.int st), some (.int sh), none, none, none, none, none, none] W = .ok (.loc (S.length + 1)) V := lr
    simp [lr, d4]
  have s5 : evS (callN Γ (k + 3)) xna5 [some (.loc s), some (.int R), some (.int C), some (.loc S.length), some (.int st), some (.int sh), some (.loc (S.length + 2)), none, none, none, none, none] (S.set s c4 ++ G0) = .nx (nEnv (.loc s) R C st sh S.length (S.length + 2) (S.length + 3) none none none none) (S.set s c4 ++ (G0 ++ [.lst (fd [])])) := by
    have w1 : (S.set s c4 ++ G0).length = S.length + 3 := B_len
    have w2 : S.set s c4 ++ G0 ++ [.lst []] = S.set s c4 ++ (G0 ++ [.lst (fd [])]) := B_app
    generalize S.set s c4 ++ (G0 ++ [.lst (fd [])]) = U at *
    generalize S.set s c4 ++ G0 = V at *
    simp [w1, w2]
  rw [callN_eq h0 rfl]
  show gcO S (bodyO (evSs (callN Γ (k + 3)) f__law_named.body [some (.loc s), some (.int R), some (.int C), none, none, none, none, none, none, none, none, none] S)) = _
  have bd : f__law_named.body = .cons xna1 (.cons xna2 (.cons xna3 (.cons xna4 (.cons xna5 (.cons xna6 (.cons xna7 .nil)))))) := rfl
  rw [bd, evss_nx s1, evss_nx s2, evss_nx s3, evss_nx s4, evss_nx s5]
  have e0 : (G0 ++ [Cell.lst (fd [])]).set 3 (.lst (fd [])) = G0 ++ [.lst (fd [])] := rfl
  rw [e0] at s6
  rw [evss_nx s6]
  have g7 : (S.set s c4 ++ ((G0 ++ [Cell.lst (fd [])]).set 3 (.lst (fd fl)) ++ G))[S.length + 3]? = some (.lst (fd fl)) := by rw [B_get]; rfl
  have gd : gc S (.tup (fd fl)) (S.set s c4 ++ ((G0 ++ [Cell.lst (fd [])]).set 3 (.lst (fd fl)) ++ G)) = .ok (.tup (fd fl)) (S.set s c4) := gc_src hc4 (by rw [cl_tup]; exact cls_fd _ _)
  generalize S.set s c4 ++ ((G0 ++ [Cell.lst (fd [])]).set 3 (.lst (fd fl)) ++ G) = U at *
  simp [tup_loc g7, gd]
end
end Iv

set_option maxRecDepth 100000
namespace Iv
open PySem
/-! ### lists put together row by row -/
theorem cat_ok {F : Fns} {B : Store} {fl : List (List Str)} {En : Nat → Option D → Env} {a cv : Nat} {LC : IE} {p : Str → Bool} {itx : II} {j0 : Nat} {o0 : Option D} {G0 : Store}
    (hit : evI F itx (En (B.length + j0) o0) (B ++ G0) = .ok (fd fl, .free) (B ++ G0)) (h0 : G0[j0]? = some (.lst (sd []))) (hlen : fl.flatten.length < 100000)
    (h1 : ∀ j o x T, asgT F (.nm cv) x (En j o) T = .ok (En j (some x)) T) (h2 : ∀ j o T, evE F (.var a) (En j o) T = .ok (.loc j) T) (h3 : ∀ j j' o T, asgT F (.nm a) (.loc j') (En j o) T = .ok (En j' o) T)
    (hL : ∀ j r G, r ∈ fl → evE F LC (En j (some (.tup (sd r)))) (B ++ G) = .ok (.loc (B ++ G).length) (B ++ G ++ [.lst (sd (r.filter p))])) :
    ∃ j o G, G[j]? = some (.lst (sd (fl.flatten.filter p))) ∧ evS F (.for_ (.nm cv) itx (.cons (.asg (.nm a) (.bin .Add (.var a) LC)) .nil)) (En (B.length + j0) o0) (B ++ G0) = .nx (En (B.length + j) o) (B ++ G) := by
  have key := loopF_all (src := .free) (f := fun x ρ S => (asgT F (.nm cv) x ρ S).bindS (fun ρ' S' => evSs F (.cons (.asg (.nm a) (.bin .Add (.var a) LC)) .nil) ρ' S')) (xs := fd fl) (ρ := En (B.length + j0) o0) (S := B ++ G0)
    (fun i ρ S' => ∃ j o G, ρ = En (B.length + j) o ∧ S' = B ++ G ∧ G[j]? = some (.lst (sd ((fl.take i).flatten.filter p)))) ⟨j0, o0, G0, rfl, rfl, h0⟩
    (fun i x ρ S' ⟨j, o, G, e1, e2, e3⟩ hi => ?_) (fun _ _ _ => rfl)
  · obtain ⟨ρ', S', e0, j, o, G, e1, e2, e3⟩ := key
    subst e1 e2
    rw [fd_len, List.take_of_length_le (Nat.le_refl _)] at e3
    refine ⟨j, o, G, e3, ?_⟩
    rw [st_for', hit]
    exact e0
  · subst e1 e2
    obtain ⟨r, hr, rfl⟩ : ∃ r, fl[i]? = some r ∧ x = .tup (sd r) := by
      unfold fd at hi
      rw [List.getElem?_map] at hi
      obtain ⟨r, hr, rfl⟩ := Option.map_eq_some_iff.mp hi
      exact ⟨r, hr, rfl⟩
    have lc := hL (B.length + j) r G (List.mem_of_getElem? hr)
    have gj : (B ++ G ++ [Cell.lst (sd (r.filter p))])[B.length + j]? = some (.lst (sd ((fl.take i).flatten.filter p))) := by
      rw [List.append_assoc, get_app, List.getElem?_append_left (List.getElem?_eq_some_iff.mp e3).1]
      exact e3
    have tk : fl.take (i + 1) = fl.take i ++ [r] := by rw [List.take_succ, hr]; rfl
    have bound : ((fl.take (i + 1)).flatten).length ≤ fl.flatten.length := by
      conv => rhs; rw [← List.take_append_drop (i + 1) fl, List.flatten_append, List.length_append]
      exact Nat.le_add_right _ _
    rw [tk, List.flatten_append, List.length_append] at bound
    have ad := add_loc (S := B ++ G ++ [.lst (sd (r.filter p))]) (m := B.length + j) (n := (B ++ G).length) gj (by rw [get_app0]; rfl) (by
      rw [sd_len, sd_len]
      have h1 := List.length_filter_le p (fl.take i).flatten
      have h2 := List.length_filter_le p r
      simp only [List.flatten_cons, List.flatten_nil, List.append_nil] at bound
      omega)
    have e6 : sd ((fl.take i).flatten.filter p) ++ sd (r.filter p) = sd ((fl.take (i + 1)).flatten.filter p) := by
      rw [tk, List.flatten_append, List.filter_append]
      simp [sd]
    have e7 : (B ++ G ++ [Cell.lst (sd (r.filter p))]).length = B.length + (G.length + 1) := by simp [Nat.add_assoc]
    have e8 : B ++ G ++ [Cell.lst (sd (r.filter p))] ++ [.lst (sd ((fl.take (i + 1)).flatten.filter p))] = B ++ (G ++ [.lst (sd (r.filter p)), .lst (sd ((fl.take (i + 1)).flatten.filter p))]) := by simp
    rw [e6, e7, e8] at ad
    refine ⟨rfl, En (B.length + (G.length + 1)) (some (.tup (sd r))), B ++ (G ++ [.lst (sd (r.filter p)), .lst (sd ((fl.take (i + 1)).flatten.filter p))]), .inl ?_, G.length + 1, some (.tup (sd r)), _, rfl, rfl, ?_⟩
    · rw [h1, bindS_ok]
      have q : evS F (.asg (.nm a) (.bin .Add (.var a) LC)) (En (B.length + j) (some (.tup (sd r)))) (B ++ G) = .nx (En (B.length + (G.length + 1)) (some (.tup (sd r)))) (B ++ (G ++ [.lst (sd (r.filter p)), .lst (sd ((fl.take (i + 1)).flatten.filter p))])) := by
        show (evE F (.bin .Add (.var a) LC) _ _).bindS _ = _
        rw [ev_bin, h2, bind_ok, lc, bind_ok, ad, bindS_ok, h3, bindS_ok]
      rw [evss_nx q]
      rfl
    · rw [List.getElem?_append_right (by omega), show G.length + 1 - G.length = 1 by omega]
      rfl
/-! ### leaders -/
def upS : Str := "ABCDEFGHIJKLMNOPQRSTUVWXYZ"
def lowS : Str := "abcdefghijklmnopqrstuvwxyz"
def isUp (x : Str) : Bool := match x.cps.toList with
  | [] => false
  | c :: _ => inStr (cS [c]) upS
def Short (x : Str) : Prop := ∃ c r, x = cS (c :: r) ∧ r.length ≤ 5
theorem Short.ix {x : Str} (h : Short x) {S : Store} : ∃ y, ixD (.str x) (.int 0) S = some (.str y) ∧ inStr y upS = isUp x := by
  obtain ⟨c, r, rfl, hr⟩ := h
  refine ⟨cS [c], ?_, rfl⟩
  rw [ix_cS (by rw [List.length_cons]; omega), ixAt_0]
  rfl
theorem in_str {x y : Str} {S : Store} : cmpD .In (.str x) (.str y) S = some (inStr x y) := rfl
/-- a comprehension that keeps some of a row -/
theorem keep_ok {F : Fns} {ρ : Env} {S : Store} {v rv : Nat} {c : IE} {r : List Str} {p : Str → Bool} (hr : evE F (.var rv) ρ S = .ok (.tup (sd r)) S) (hv : v < ρ.length) (hl : r.length < 1000)
    (hc : ∀ x ∈ r, ∀ acc, evE F c ((wipeE ρ [v]).set v (some (.str x))) (S ++ [.lst acc]) = .ok (.bl (p x)) (S ++ [.lst acc])) :
    evE F (.lc (.var v) (.nm v) (.val (.var rv)) (.some c)) ρ S = .ok (.loc S.length) (S ++ [.lst (sd (r.filter p))]) := by
  have hl' : v < (wipeE ρ [v]).length := by simpa [wipeE] using hv
  have lc := lc_ok (F := F) (e := .var v) (t := .nm v) (c := .some c) (ρ := ρ) (S := S) (S1 := S) (it := .val (.var rv)) (xs := sd r) (src := .free)
    (fun x => match x with | .str y => if p y then some (.str y) else none | _ => none) (by rw [evi_val, hr, bind_ok]; rfl) (by rw [sd_len]; omega) (fun _ => rfl) (fun x hx acc => ⟨[], by
      obtain ⟨y, hy, rfl⟩ := List.mem_map.mp hx
      have g : ((wipeE ρ [v]).set v (some (.str y)))[v]? = some (some (.str y)) := List.getElem?_set_self hl'
      have h := hc y hy acc
      cases hp : p y with
      | false =>
        rw [hp] at h
        generalize S ++ [.lst acc] = U at *
        simp [turnC, bindT, slotsT, hl', evC, h, tru, hp]
      | true =>
        rw [hp] at h
        generalize S ++ [.lst acc] = U at *
        simp [turnC, bindT, slotsT, hl', evC, h, tru, hp, g]⟩) (fun x hx d hd => by
      obtain ⟨y, _, rfl⟩ := List.mem_map.mp hx
      by_cases z : p y = true
      · simp [z] at hd; subst hd; rfl
      · simp [z] at hd)
  have e : ∀ l : List Str, (sd l).filterMap (fun x => match x with | .str y => if p y then some (D.str y) else none | _ => none) = sd (l.filter p) := fun l => by
    induction l with
    | nil => rfl
    | cons y l ih =>
      show List.filterMap _ (.str y :: sd l) = _
      rw [List.filterMap_cons, List.filter_cons, ih]
      cases hp : p y <;> simp [hp, sd]
  rw [e] at lc
  exact lc
end Iv

set_option maxRecDepth 100000
namespace Iv
open PySem
/-! ### names; a twin -/
structure NmOk (x : Str) : Prop where
  ex : ∃ c r, x = cS (c :: r) ∧ ((65 ≤ c ∧ c < 91) ∨ (97 ≤ c ∧ c < 123)) ∧ r.length ≤ 5 ∧ ∀ y ∈ r, 97 ≤ y ∧ y < 123
theorem NmOk.short {x : Str} (h : NmOk x) : Short x := by
  obtain ⟨c, r, e, _, h3, _⟩ := h.ex
  exact ⟨c, r, e, h3⟩
theorem up_in : ∀ c : Nat, c < 123 → inStr (cS [c]) upS = decide (65 ≤ c ∧ c < 91) := by decide +kernel
theorem low_in : ∀ c : Nat, c < 123 → inStr (cS [c]) lowS = decide (97 ≤ c ∧ c < 123) := by decide +kernel
theorem isUp_c {c : Nat} {r : List Nat} (h : c < 123) : isUp (cS (c :: r)) = decide (65 ≤ c ∧ c < 91) := up_in c h
theorem low_ok : ∀ i : Nat, i < 26 → Txt.lower (cS [65 + i]) = cS [97 + i] := by decide +kernel
theorem lowD_ok {c : Nat} (h : 65 ≤ c ∧ c < 91) {S : Store} : bmD .lower (.str (cS [c])) [] S = .ok (.str (cS [c + 32])) S := by
  show (if (cS [c]).length ≤ 5000000 then Out.ok (D.str (Txt.lower (cS [c]))) S else .bad) = _
  rw [if_pos (by rw [cS_len]; exact (by decide : 1 ≤ 5000000))]
  have := low_ok (c - 65) (by omega)
  rw [show 65 + (c - 65) = c by omega, show 97 + (c - 65) = c + 32 by omega] at this
  rw [this]
theorem in_lst {x : Str} {c : List Str} {S : Store} {n : Nat} (h : S[n]? = some (.lst (sd c))) : cmpD .In (.str x) (.loc n) S = some (hasS x c) := by
  have := in_tup (x := x) (c := c) (S := S)
  have e : cmpD .In (.str x) (.loc n) S = inL (.str x) (sd c) S := by
    show inD (.str x) (.loc n) S = _
    simp only [inD, h]
  rw [e]
  exact this
theorem nin_lst {x : Str} {c : List Str} {S : Store} {n : Nat} (h : S[n]? = some (.lst (sd c))) : cmpD .NotIn (.str x) (.loc n) S = some (!hasS x c) := by
  show (cmpD .In (.str x) (.loc n) S).map not = _
  rw [in_lst h]
  rfl
theorem eq_nil {c : List Str} {S : Store} {n m : Nat} (h : S[n]? = some (.lst (sd c))) (h2 : S[m]? = some (.lst [])) : cmpD .Eq (.loc n) (.loc m) S = some (decide (c = [])) := by
  show eqD (.loc n) (.loc m) S = _
  have e1 : toPy S 8 (.loc n) = some (.list (c.map PyData.str)) := by
    show ((lstAt S n).bind fun xs => (mapO (toPy S 7) xs).map PyData.list) = _
    have : lstAt S n = some (sd c) := by simp [lstAt, h]
    rw [this]
    show (mapO (toPy S 7) (sd c)).map PyData.list = _
    rw [mapO_sd]
    rfl
  have e2 : toPy S 8 (.loc m) = some (.list []) := by
    show ((lstAt S m).bind fun xs => (mapO (toPy S 7) xs).map PyData.list) = _
    have : lstAt S m = some [] := by simp [lstAt, h2]
    rw [this]
    rfl
  unfold eqD
  rw [e1, e2]
  cases c with
  | nil => rfl
  | cons x c => rfl
def twinMap (o t : Str) (fl : List (List Str)) : List (List Str) := fl.map fun r => r.map fun x => if x = o then t else x
inductive TwinOf (fl : List (List Str)) : List (List Str) → Prop where
  | same : TwinOf fl fl
  | twin (c : Nat) (r : List Nat) (o : Str) (hc : 65 ≤ c ∧ c < 91) (hl : cS (c :: r) ∈ fl.flatten) (ho : o ∈ fl.flatten) (hu : isUp o = false) : TwinOf fl (twinMap o (cS ((c + 32) :: r)) fl)
theorem map_row {F : Fns} {ρ : Env} {S : Store} {v rv : Nat} {e : IE} {r : List Str} {f : Str → Str} (hr : evE F (.var rv) ρ S = .ok (.tup (sd r)) S) (hv : v < ρ.length) (hl : r.length < 1000)
    (hc : ∀ x ∈ r, ∀ acc, evE F e ((wipeE ρ [v]).set v (some (.str x))) (S ++ [.lst acc]) = .ok (.str (f x)) (S ++ [.lst acc])) :
    evE F (.lc e (.nm v) (.val (.var rv)) .none) ρ S = .ok (.loc S.length) (S ++ [.lst (sd (r.map f))]) := by
  have hl' : v < (wipeE ρ [v]).length := by simpa [wipeE] using hv
  have lc := lc_ok (F := F) (e := e) (t := .nm v) (c := .none) (ρ := ρ) (S := S) (S1 := S) (it := .val (.var rv)) (xs := sd r) (src := .free)
    (fun x => match x with | .str y => some (.str (f y)) | _ => none) (by rw [evi_val, hr, bind_ok]; rfl) (by rw [sd_len]; omega) (fun _ => rfl) (fun x hx acc => ⟨[], by
      obtain ⟨y, hy, rfl⟩ := List.mem_map.mp hx
      have h := hc y hy acc
      generalize S ++ [.lst acc] = U at *
      simp [turnC, bindT, slotsT, hl', evC, h]⟩) (fun x hx d hd => by
      obtain ⟨y, _, rfl⟩ := List.mem_map.mp hx
      cases hd
      rfl)
  have e : ∀ l : List Str, (sd l).filterMap (fun x => match x with | .str y => some (D.str (f y)) | _ => none) = sd (l.map f) := fun l => by
    induction l with
    | nil => rfl
    | cons y l ih =>
      show List.filterMap _ (.str y :: sd l) = _
      rw [List.filterMap_cons, ih]
      rfl
  rw [e] at lc
  exact lc
abbrev tEnv (s : Nat) (fl : List (List Str)) (o2 o3 o4 o5 o6 o7 : Option D) : Env := [some (.loc s), some (.tup (fd fl)), o2, o3, o4, o5, o6, o7, none]
theorem twin_out {F : Fns} {s : Nat} {fl : List (List Str)} {o2 o3 o4 o5 : Option D} {o t : Str} {S : Store} (hl : fl.length < 1000) (hr : ∀ r ∈ fl, r.length < 1000) :
    ∃ L, evE F (.bf .tuple (.cons (.lc (.bf .tuple (.cons (.lc (.ite (.cmp .Eq (.var 8) (.var 6)) (.var 7) (.var 8)) (.nm 8) (.val (.var 4)) (.none)) (.nil))) (.nm 4) (.val (.var 1)) (.none)) (.nil))) (tEnv s fl o2 o3 o4 o5 (some (.str o)) (some (.str t))) S = .ok (.tup (fd (twinMap o t fl))) (S ++ L) := by
  have lc := lc_ok (F := F) (e := .bf .tuple (.cons (.lc (.ite (.cmp .Eq (.var 8) (.var 6)) (.var 7) (.var 8)) (.nm 8) (.val (.var 4)) (.none)) (.nil))) (t := .nm 4) (c := .none) (ρ := tEnv s fl o2 o3 o4 o5 (some (.str o)) (some (.str t))) (S := S) (S1 := S) (it := .val (.var 1)) (xs := fd fl) (src := .free)
    (fun x => match x with | .tup ds => (strs? ds).map fun r => .tup (sd (r.map fun x => if x = o then t else x)) | _ => none) rfl (by rw [fd_len]; omega) (fun _ => rfl) (fun x hx acc => by
      obtain ⟨r, hr2, rfl⟩ := List.mem_map.mp hx
      refine ⟨[.lst (sd (r.map fun x => if x = o then t else x))], ?_⟩
      have mr := map_row (F := F) (ρ := tEnv s fl o2 o3 (some (.tup (sd r))) o5 (some (.str o)) (some (.str t))) (S := S ++ [.lst acc]) (v := 8) (rv := 4) (e := .ite (.cmp .Eq (.var 8) (.var 6)) (.var 7) (.var 8)) (r := r) (f := fun x => if x = o then t else x) rfl (show 8 < 9 by decide) (hr r hr2) (fun x hx acc' => by
        generalize S ++ [.lst acc] ++ [.lst acc'] = U
        by_cases e : x = o
        · simp [wipeE, e]
        · simp [wipeE, e])
      have tl := tup_loc (S := S ++ [Cell.lst acc] ++ [.lst (sd (r.map fun x => if x = o then t else x))]) (n := (S ++ [Cell.lst acc]).length) (xs := sd (r.map fun x => if x = o then t else x)) (by rw [get_app0]; rfl)
      generalize S ++ [Cell.lst acc] ++ [.lst (sd (r.map fun x => if x = o then t else x))] = V at *
      generalize S ++ [Cell.lst acc] = U at *
      simp only [strs_sd]
      simp [turnC, bindT, slotsT, wipeE, evC, mr, tl]) (fun x hx d hd => by
      obtain ⟨r, _, rfl⟩ := List.mem_map.mp hx
      simp only [strs_sd, Option.map_some] at hd
      cases hd
      exact cls_sd _ _)
  have e : ∀ l : List (List Str), (fd l).filterMap (fun x => match x with | .tup ds => (strs? ds).map fun r => D.tup (sd (r.map fun x => if x = o then t else x)) | _ => none) = fd (twinMap o t l) := fun l => by
    induction l with
    | nil => rfl
    | cons y l ih =>
      show List.filterMap _ (.tup (sd y) :: fd l) = _
      rw [List.filterMap_cons, ih]
      simp only [strs_sd]
      rfl
  rw [e] at lc
  refine ⟨[.lst (fd (twinMap o t fl))], ?_⟩
  have tl := tup_loc (S := S ++ [.lst (fd (twinMap o t fl))]) (n := S.length) (xs := fd (twinMap o t fl)) (by rw [get_app0]; rfl)
  generalize S ++ [.lst (fd (twinMap o t fl))] = V at *
  rw [ev_bf, evs_cons, lc, bind_ok, evs_nil, bind_ok, bind_ok, tl]
end Iv

set_option maxRecDepth 100000
namespace Iv
open PySem
abbrev xfl1 : IS := .asg (.nm 2) (.bin .Add (.con (.int 1)) (.call i__law_draw (.cons (.var 0) (.cons (.bf .min2 (.cons (.con (.int 12)) (.cons (.var 1) (.nil)))) (.nil)))))
abbrev xfl2 : IS := .asg (.nm 3) (.bin .Add (.con (.int 1)) (.call i__law_draw (.cons (.var 0) (.cons (.bf .min2 (.cons (.con (.int 12)) (.cons (.bin .FloorDiv (.var 1) (.var 2)) (.nil)))) (.nil)))))
abbrev xfl3 : IS := .ret (.some (.call i__law_named (.cons (.var 0) (.cons (.var 2) (.cons (.var 3) (.nil))))))
section
variable {Γ : Nat → Option FDef} {k : Nat} {S : Store} {s m : Nat} {c : Cell} {fl : List (List Str)}
/-- a floor of up to M cells -/
theorem floor_ok {M : Nat} (h : Γ i__law_floor = some f__law_floor) (h0 : Γ i__law_named = some f__law_named) (h1 : Γ i__law_name = some f__law_name) (h3 : Γ i__law_pattern = some f__law_pattern) (h4 : Γ i__law_draw = some f__law_draw) (h5 : Γ i__law_shuffled = some f__law_shuffled) (hs : S[s]? = some c) (hc : SrcC c m) (hm : m < 10 ^ 11) (hM : 0 < M) (hM2 : M < 1000) :
    ∃ R C st sh us fl c', 0 < R ∧ R < 13 ∧ 0 < C ∧ C < 13 ∧ R * C ≤ M ∧ st < 6 ∧ sh < 26 ∧ FlN R C st sh us fl ∧ SrcC c' (m + 1100) ∧ callN Γ (k + 5) i__law_floor [.loc s, .int M] S = .ok (.tup (fd fl)) (S.set s c') := by
  obtain ⟨r, c1, r1, hc1, d1⟩ := draw_ok (k := k + 3) h4 hs hc (by omega) (b := min 12 M) (by omega) (by omega)
  have dv : 0 < M / (1 + r) := Nat.div_pos (by omega) (by omega)
  obtain ⟨q, c2, q1, hc2, d2⟩ := draw_ok (k := k + 3) h4 (S := S.set s c1) (List.getElem?_set_self (List.getElem?_eq_some_iff.mp hs).1) hc1 (by omega) (b := min 12 (M / (1 + r))) (by omega) (by omega)
  rw [List.set_set] at d2
  obtain ⟨st, sh, us, fl, c', w1, w2, hf, hc', d3⟩ := named_ok (k := k) (R := 1 + r) (C := 1 + q) h0 h1 h3 h4 h5 (S := S.set s c2) (List.getElem?_set_self (List.getElem?_eq_some_iff.mp hs).1) hc2 (by omega) (by omega) (by omega) (by omega) (by omega)
  rw [List.set_set] at d3
  have RC : (1 + r) * (1 + q) ≤ M := by
    have h := Nat.mul_le_mul_left (1 + r) (show 1 + q ≤ M / (1 + r) by omega)
    exact Nat.le_trans h (Nat.mul_div_le M (1 + r))
  refine ⟨1 + r, 1 + q, st, sh, us, fl, c', by omega, by omega, by omega, by omega, RC, w1, w2, hf, hc'.mono (by omega), ?_⟩
  have m1 : ∀ S, bfD .min2 [.int 12, .int (M : Nat)] S = .ok (.int (min 12 M : Nat)) S := fun S => by
    have : (if ((M : Nat) : Int) < 12 then ((M : Nat) : Int) else 12) = ((min 12 M : Nat) : Int) := by split <;> omega
    rw [bf_min, this]
  have m2 : ∀ S, bfD .min2 [.int 12, .int (M / (1 + r) : Nat)] S = .ok (.int (min 12 (M / (1 + r)) : Nat)) S := fun S => by
    have : (if ((M / (1 + r) : Nat) : Int) < 12 then ((M / (1 + r) : Nat) : Int) else 12) = ((min 12 (M / (1 + r)) : Nat) : Int) := by split <;> omega
    rw [bf_min, this]
  have dd : opI .FloorDiv (M : Nat) ((1 + r : Nat) : Int) = some ((M / (1 + r) : Nat) : Int) := by
    rw [opi_fdiv (by omega) (by
      rw [Int.natAbs_natCast]
      exact Nat.lt_of_le_of_lt (Nat.log2_le_self _) (by omega))]
    rfl
  have a1 : (1 : Int) + (r : Nat) = ((1 + r : Nat) : Int) := by omega
  have a2 : (1 : Int) + (q : Nat) = ((1 + q : Nat) : Int) := by omega
  have gd : gc S (.tup (fd fl)) (S.set s c') = .ok (.tup (fd fl)) (S.set s c') := gc_set0 hc'.cl (by rw [cl_tup]; exact cls_fd _ _)
  rw [callN_eq h rfl]
  show gcO S (bodyO (evSs (callN Γ (k + 4)) f__law_floor.body [some (.loc s), some (.int M), none, none] S)) = _
  have bd : f__law_floor.body = .cons xfl1 (.cons xfl2 (.cons xfl3 .nil)) := rfl
  have s1 : evS (callN Γ (k + 4)) xfl1 [some (.loc s), some (.int M), none, none] S = .nx [some (.loc s), some (.int M), some (.int (1 + r : Nat)), none] (S.set s c1) := by
    generalize S.set s c1 = U at *
    generalize min 12 M = z at *
    generalize ((1 + r : Nat) : Int) = z2 at *
    simp [-bf_min, m1, d1, a1]
  have s2 : evS (callN Γ (k + 4)) xfl2 [some (.loc s), some (.int M), some (.int (1 + r : Nat)), none] (S.set s c1) = .nx [some (.loc s), some (.int M), some (.int (1 + r : Nat)), some (.int (1 + q : Nat))] (S.set s c2) := by
    generalize S.set s c2 = V at *
    generalize S.set s c1 = U at *
    generalize min 12 (M / (1 + r)) = z at *
    generalize ((M / (1 + r) : Nat) : Int) = z3 at *
    generalize ((1 + r : Nat) : Int) = z2 at *
    generalize ((1 + q : Nat) : Int) = z4 at *
    simp [-bf_min, dd, m2, d2, a2]
  rw [bd, evss_nx s1, evss_nx s2]
  generalize S.set s c' = W at *
  generalize S.set s c2 = V at *
  generalize ((1 + r : Nat) : Int) = z2 at *
  generalize ((1 + q : Nat) : Int) = z4 at *
  simp [d3, gd]
end
end Iv

set_option maxRecDepth 100000
namespace Iv
open PySem
/-! ### the floor is valid -/
structure FlOk (R C : Nat) (fl : List (List Str)) : Prop where
  len : fl.length = R
  wd : ∀ r ∈ fl, r.length = C
  nm : ∀ x ∈ fl.flatten, NmOk x
  nd : fl.flatten.Nodup
  r0 : 0 < R
  r1 : R < 13
  c0 : 0 < C
  c1 : C < 13
theorem itm_nm (st sh : Nat) (p : Bool × Nat) : NmOk (itm st sh p) := by
  obtain ⟨c, r, e, hc, hr, hx⟩ := nmC_ok st sh p.2
  refine ⟨⟨_, r, (by unfold itm item; rw [e]), ?_, hr, hx⟩⟩
  cases p.1 with
  | false => exact .inr hc
  | true => left; show 65 ≤ c - 32 ∧ c - 32 < 91; omega
theorem itm_inj {st sh : Nat} {p q : Bool × Nat} (h : itm st sh p = itm st sh q) : p.1 = q.1 ∧ nmC st sh p.2 = nmC st sh q.2 := by
  obtain ⟨c, r, e, hc, _⟩ := nmC_ok st sh p.2
  obtain ⟨c', r', e', hc', _⟩ := nmC_ok st sh q.2
  have h := cS_inj h
  unfold item at h
  rw [e, e'] at h
  rw [e, e']
  have h := List.cons.inj h
  obtain ⟨h1, h2⟩ := h
  rcases p with ⟨b, n⟩
  rcases q with ⟨b', n'⟩
  cases b <;> cases b' <;> simp only [Bool.false_eq_true, if_true, if_false] at h1
  · exact ⟨rfl, by rw [h1, h2]⟩
  · omega
  · omega
  · have : c = c' := by omega
    exact ⟨rfl, by rw [this, h2]⟩
theorem two_in {sh n n' : Nat} (hn : n < 156) (hn' : n' < 156) (h1 : nf sh n = nf sh n') (h2 : ns sh n = ns sh n') : n = n' := by
  unfold nf at h1
  unfold ns at h2
  omega
theorem nmC_inj {st sh n n' : Nat} (hn : n < 156) (hn' : n' < 156) (h : nmC st sh n = nmC st sh n') : n = n' := by
  unfold nmC at h
  split at h
  · obtain ⟨h1, h2⟩ := List.cons.inj h
    by_cases c : 25 < n <;> by_cases c' : 25 < n'
    · rw [if_pos c, if_pos c'] at h2
      exact two_in hn hn' h1 (List.cons.inj h2).1
    · rw [if_pos c, if_neg c'] at h2; cases h2
    · rw [if_neg c, if_pos c'] at h2; cases h2
    · unfold nf at h1
      omega
  · have h := List.cons.inj h
    exact two_in hn hn' (List.cons.inj h.2).1 h.1
  · have h := List.cons.inj (List.cons.inj (List.cons.inj h).2).2
    exact two_in hn hn' (List.cons.inj h.2).1 h.1
  · have h := List.cons.inj h
    exact two_in hn hn' h.1 (List.cons.inj h.2).1
  · have h := List.cons.inj h
    exact two_in hn hn' h.1 (List.cons.inj h.2).1
  · have h := List.cons.inj h
    exact two_in hn hn' (List.cons.inj h.2).1 h.1
theorem us_small {R C : Nat} {us : List (Bool × Nat)} (h : (us.map (·.2)).Perm (List.range (R * C))) (hR : R < 13) (hC : C < 13) : ∀ p ∈ us, p.2 < 156 := fun p hp => by
  have := List.mem_range.mp (h.subset (List.mem_map.mpr ⟨p, hp, rfl⟩))
  have RC : R * C ≤ 12 * 12 := Nat.mul_le_mul (by omega) (by omega)
  omega
theorem map_nodup_on {α β : Type} {f : α → β} : ∀ {l : List α}, (∀ x ∈ l, ∀ y ∈ l, f x = f y → x = y) → l.Nodup → (l.map f).Nodup
  | [], _, _ => List.nodup_nil
  | x :: l, h, n => by
    obtain ⟨n1, n2⟩ := List.nodup_cons.mp n
    refine List.nodup_cons.mpr ⟨fun m => ?_, map_nodup_on (fun a ha b hb => h a (List.mem_cons_of_mem _ ha) b (List.mem_cons_of_mem _ hb)) n2⟩
    obtain ⟨y, hy, e⟩ := List.mem_map.mp m
    exact n1 (h y (List.mem_cons_of_mem _ hy) x List.mem_cons_self e ▸ hy)
theorem inj_of_nodup {α β : Type} {f : α → β} : ∀ {l : List α}, (l.map f).Nodup → ∀ x ∈ l, ∀ y ∈ l, f x = f y → x = y
  | x :: l, n, a, ha, b, hb, e => by
    obtain ⟨n1, n2⟩ := List.nodup_cons.mp n
    rcases List.mem_cons.mp ha with ha' | ha' <;> rcases List.mem_cons.mp hb with hb' | hb'
    · rw [ha', hb']
    · exact absurd (List.mem_map.mpr ⟨b, hb', e.symm.trans (congrArg f ha')⟩) n1
    · exact absurd (List.mem_map.mpr ⟨a, ha', e.trans (congrArg f hb')⟩) n1
    · exact inj_of_nodup n2 a ha' b hb' e
theorem nodup_of_map {α β : Type} {f : α → β} : ∀ {l : List α}, (l.map f).Nodup → l.Nodup
  | [], _ => List.nodup_nil
  | x :: l, n => by
    obtain ⟨n1, n2⟩ := List.nodup_cons.mp n
    exact List.nodup_cons.mpr ⟨fun m => n1 (List.mem_map.mpr ⟨x, m, rfl⟩), nodup_of_map n2⟩
theorem flN_nm {R C st sh : Nat} {us : List (Bool × Nat)} {fl : List (List Str)} (h : FlN R C st sh us fl) : ∀ x ∈ fl.flatten, NmOk x := fun x hx => by
  rw [h.flat] at hx
  obtain ⟨p, _, rfl⟩ := List.mem_map.mp hx
  exact itm_nm _ _ _
theorem flN_inj {R C st sh : Nat} {us : List (Bool × Nat)} {fl : List (List Str)} (h : FlN R C st sh us fl) (hR : R < 13) (hC : C < 13) : ∀ p ∈ us, ∀ q ∈ us, nmC st sh p.2 = nmC st sh q.2 → p = q := fun p hp q hq e => by
  have nd : (us.map (·.2)).Nodup := h.perm.nodup_iff.mpr List.nodup_range
  have sm := us_small h.perm hR hC
  exact inj_of_nodup nd p hp q hq (nmC_inj (sm p hp) (sm q hq) e)
theorem flN_ok {R C st sh : Nat} {us : List (Bool × Nat)} {fl : List (List Str)} (h : FlN R C st sh us fl) (hR0 : 0 < R) (hR : R < 13) (hC0 : 0 < C) (hC : C < 13) : FlOk R C fl := by
  refine ⟨h.len, h.wd, flN_nm h, ?_, hR0, hR, hC0, hC⟩
  rw [h.flat]
  have nd : us.Nodup := nodup_of_map (h.perm.nodup_iff.mpr List.nodup_range)
  exact map_nodup_on (fun p hp q hq e => flN_inj h hR hC p hp q hq (itm_inj e).2) nd
theorem twin_flat {o t : Str} : ∀ {fl : List (List Str)}, (twinMap o t fl).flatten = fl.flatten.map fun x => if x = o then t else x
  | [] => rfl
  | r :: fl => by
    show (r.map _) ++ (twinMap o t fl).flatten = (r ++ fl.flatten).map _
    rw [twin_flat, List.map_append]
theorem twin_fl {R C st sh : Nat} {us : List (Bool × Nat)} {fl fl' : List (List Str)} (h : FlN R C st sh us fl) (t : TwinOf fl fl') (hR0 : 0 < R) (hR : R < 13) (hC0 : 0 < C) (hC : C < 13) : FlOk R C fl' := by
  have ok := flN_ok h hR0 hR hC0 hC
  cases t with
  | same => exact ok
  | twin c r o hc hl ho hu =>
    have nt : cS ((c + 32) :: r) ∉ fl.flatten := fun m => by
      rw [h.flat] at hl m
      obtain ⟨p, hp, e1⟩ := List.mem_map.mp hl
      obtain ⟨q, hq, e2⟩ := List.mem_map.mp m
      obtain ⟨c1, r1, z1, k1, _⟩ := nmC_ok st sh p.2
      obtain ⟨c2, r2, z2, k2, _⟩ := nmC_ok st sh q.2
      have e1 := cS_inj e1
      have e2 := cS_inj e2
      unfold item at e1 e2
      rw [z1] at e1
      rw [z2] at e2
      obtain ⟨a1, a2⟩ := List.cons.inj e1
      obtain ⟨b1, b2⟩ := List.cons.inj e2
      have p1 : p.1 = true := by
        cases hp1 : p.1 with
        | true => rfl
        | false => rw [hp1] at a1; simp only [Bool.false_eq_true, if_false] at a1; omega
      have q1 : q.1 = false := by
        cases hq1 : q.1 with
        | false => rfl
        | true => rw [hq1] at b1; simp only [if_true] at b1; omega
      rw [p1] at a1
      rw [q1] at b1
      simp only [if_true, Bool.false_eq_true, if_false] at a1 b1
      have : p = q := flN_inj h hR hC p hp q hq (by rw [z1, z2, a2, b2, show c1 = c2 by omega])
      rw [this, q1] at p1
      cases p1
    have key : ∀ x ∈ fl.flatten, ∀ y ∈ fl.flatten, (if x = o then cS ((c + 32) :: r) else x) = (if y = o then cS ((c + 32) :: r) else y) → x = y := fun x hx y hy e => by
      by_cases h1 : x = o <;> by_cases h2 : y = o
      · rw [h1, h2]
      · rw [if_pos h1, if_neg h2] at e
        exact absurd (e ▸ hy) nt
      · rw [if_neg h1, if_pos h2] at e
        exact absurd (e ▸ hx) nt
      · rwa [if_neg h1, if_neg h2] at e
    refine ⟨?_, fun q hq => ?_, fun x hx => ?_, ?_, hR0, hR, hC0, hC⟩
    · rw [← h.len]
      exact List.length_map ..
    · obtain ⟨q', hq', rfl⟩ := List.mem_map.mp hq
      rw [List.length_map]
      exact h.wd q' hq'
    · rw [twin_flat] at hx
      obtain ⟨y, hy, rfl⟩ := List.mem_map.mp hx
      by_cases e : y = o
      · rw [if_pos e]
        obtain ⟨c', r', e', _, h3, h4⟩ := (ok.nm _ hl).ex
        obtain ⟨e1, e2⟩ := List.cons.inj (cS_inj e')
        exact ⟨⟨c + 32, r, rfl, .inr (by omega), by rw [e2]; exact h3, by rw [e2]; exact h4⟩⟩
      · rw [if_neg e]
        exact ok.nm y hy
    · rw [twin_flat]
      exact map_nodup_on key ok.nd
end Iv

set_option maxRecDepth 100000
namespace Iv
open PySem
abbrev xlc1 : IS := .for_ (.tup (.cons (.nm 2) (.cons (.nm 3) (.nil)))) (.enum (.var 0)) (.cons (.ife (.cmp .In (.var 1) (.var 3)) (.cons (.ret (.some (.tup (.cons (.var 2) (.cons (.bm .index (.var 3) (.cons (.var 1) (.nil))) (.nil)))))) (.nil)) (.nil)) (.nil))
theorem enumL_get : ∀ {xs : List D} {lo : Int} {i : Nat} {x : D}, (enumL lo xs)[i]? = some x → ∃ y, xs[i]? = some y ∧ x = .tup [.int (lo + i), y]
  | [], _, _, _, h => by cases h
  | y :: xs, lo, 0, x, h => by
    cases h
    exact ⟨y, rfl, by simp⟩
  | y :: xs, lo, i + 1, x, h => by
    have h : (enumL (lo + 1) xs)[i]? = some x := h
    obtain ⟨z, h1, h2⟩ := enumL_get h
    refine ⟨z, h1, ?_⟩
    rw [h2]
    congr 3
    omega
theorem fd_get {fl : List (List Str)} {i : Nat} {r : List Str} (h : fl[i]? = some r) : (fd fl)[i]? = some (.tup (sd r)) := by unfold fd; rw [List.getElem?_map, h]; rfl
theorem fd_get' {fl : List (List Str)} {i : Nat} {x : D} (h : (fd fl)[i]? = some x) : ∃ r, fl[i]? = some r ∧ x = .tup (sd r) := by
  unfold fd at h
  rw [List.getElem?_map] at h
  obtain ⟨r, hr, rfl⟩ := Option.map_eq_some_iff.mp h
  exact ⟨r, hr, rfl⟩
theorem enum_tup {F : Fns} {ρ : Env} {S : Store} {e : IE} {xs : List D} (h : evE F e ρ S = .ok (.tup xs) S) : evI F (.enum e) ρ S = .ok (enumL 0 xs, .free) S := by
  show ((evE F e ρ S).bind fun x S1 => match seqOf S1 x with
    | some xs => Out.ok (enumL 0 xs, srcOf x xs) S1
    | none => .bad) = _
  rw [h]
  rfl
end Iv

set_option maxRecDepth 100000
namespace Iv
open PySem
/-! ### locate -/
abbrev xlc2 : IS := .rse 2 ["name"] (.cons (.var 1) (.nil))

theorem idx_get {x : Str} : ∀ {l : List Str} {j : Nat}, l.Nodup → l[j]? = some x → idxOf x l = some j
  | y :: l, 0, _, h => by
    cases h
    show (if x = x then some 0 else _) = _
    rw [if_pos rfl]
  | y :: l, j + 1, n, h => by
    obtain ⟨n1, n2⟩ := List.nodup_cons.mp n
    have h : l[j]? = some x := h
    have ne : y ≠ x := fun e => n1 (e ▸ List.mem_of_getElem? h)
    show (if y = x then some 0 else (idxOf x l).map (· + 1)) = _
    rw [if_neg ne, idx_get n2 h]
    rfl
/-- turns that go on, then one that returns -/
theorem loopF_ret {f : D → Env → Store → OutS} {S : Store} {d : D} {P : Env → Prop} {x : D} {B : List D} : ∀ {A : List D} {ρ : Env}, P ρ → (∀ a ∈ A, ∀ ρ, P ρ → ∃ ρ', f a ρ S = .nx ρ' S ∧ P ρ') → (∀ ρ, P ρ → f x ρ S = .rt d S) → loopF .free f (A ++ x :: B) ρ S = .rt d S
  | [], ρ, h, _, h2 => by
    show (match f x ρ S with
      | .nx ρ' S' => loopF .free f B ρ' S'
      | .ct ρ' S' => loopF .free f B ρ' S'
      | .bk ρ' S' => .nx ρ' S'
      | o => o) = _
    rw [h2 ρ h]
  | a :: A, ρ, h, h1, h2 => by
    obtain ⟨ρ', e, h'⟩ := h1 a List.mem_cons_self ρ h
    show (match f a ρ S with
      | .nx ρ' S' => loopF .free f (A ++ x :: B) ρ' S'
      | .ct ρ' S' => loopF .free f (A ++ x :: B) ρ' S'
      | .bk ρ' S' => .nx ρ' S'
      | o => o) = _
    rw [e]
    exact loopF_ret h' (fun a ha => h1 a (List.mem_cons_of_mem _ ha)) h2
section
variable {Γ : Nat → Option FDef} {k : Nat} {S : Store} {R C : Nat} {fl : List (List Str)}
theorem row_nd (hf : FlOk R C fl) {r : List Str} (hr : r ∈ fl) : r.Nodup := by
  obtain ⟨A, B, rfl⟩ := List.append_of_mem hr
  have := hf.nd
  rw [List.flatten_append, List.flatten_cons] at this
  exact (List.nodup_append.mp (List.nodup_append.mp this).2.1).1
theorem locate2_ok (h : Γ i_locate_2 = some f_locate_2) (hf : FlOk R C fl) {i j : Nat} {r : List Str} {x : Str} (hr : fl[i]? = some r) (hx : r[j]? = some x) : callN Γ (k + 1) i_locate_2 [.tup (fd fl), .str x] S = .ok (.tup [.int i, .int j]) S := by
  have rl : ∀ r ∈ fl, r.length = C := hf.wd
  have nd := row_nd hf (List.mem_of_getElem? hr)
  have ix := idx_get nd hx
  have il := (List.getElem?_eq_some_iff.mp hr).1
  have spl : enumL 0 (fd fl) = (enumL 0 (fd fl)).take i ++ .tup [.int i, .tup (sd r)] :: (enumL 0 (fd fl)).drop (i + 1) := by
    have g : (enumL 0 (fd fl))[i]? = some (.tup [.int i, .tup (sd r)]) := by
      have l : i < (enumL 0 (fd fl)).length := by rw [enumL_len, fd_len]; exact il
      obtain ⟨y, hy, e⟩ := enumL_get (List.getElem?_eq_getElem l)
      rw [fd_get hr] at hy
      cases hy
      rw [List.getElem?_eq_getElem l, e, Int.zero_add]
    obtain ⟨h1, h2⟩ := List.getElem?_eq_some_iff.mp g
    rw [← h2, ← List.drop_eq_getElem_cons h1, List.take_append_drop]
  have out := loopF_ret (f := fun x ρ S => (asgT (callN Γ k) (.tup (.cons (.nm 2) (.cons (.nm 3) (.nil)))) x ρ S).bindS (fun ρ' S' => evSs (callN Γ k) (.cons (.ife (.cmp .In (.var 1) (.var 3)) (.cons (.ret (.some (.tup (.cons (.var 2) (.cons (.bm .index (.var 3) (.cons (.var 1) (.nil))) (.nil)))))) (.nil)) (.nil)) (.nil)) ρ' S'))
    (S := S) (d := .tup [.int i, .int j]) (P := fun ρ => ∃ o2 o3, ρ = [some (.tup (fd fl)), some (.str x), o2, o3]) (x := .tup [.int i, .tup (sd r)]) (A := (enumL 0 (fd fl)).take i) (B := (enumL 0 (fd fl)).drop (i + 1)) (ρ := [some (.tup (fd fl)), some (.str x), none, none]) ⟨none, none, rfl⟩ (fun a ha ρ ⟨o2, o3, e⟩ => by
      subst e
      obtain ⟨m, hm⟩ := List.getElem?_of_mem ha
      rw [List.getElem?_take] at hm
      split at hm
      · next lt =>
        obtain ⟨y, hy, rfl⟩ := enumL_get hm
        obtain ⟨r', hr', rfl⟩ := fd_get' hy
        refine ⟨[some (.tup (fd fl)), some (.str x), some (.int (0 + m)), some (.tup (sd r'))], ?_, _, _, rfl⟩
        have nx : hasS x r' = false := by
          cases e : hasS x r' with
          | false => rfl
          | true =>
            exfalso
            have m1 := hasS_iff.mp e
            have z := hf.nd
            have : fl.flatten = (fl.take i).flatten ++ (fl.drop i).flatten := by rw [← List.flatten_append, List.take_append_drop]
            rw [this] at z
            refine (List.nodup_append.mp z).2.2 x (List.mem_flatten.mpr ⟨r', ?_, m1⟩) x (List.mem_flatten.mpr ⟨r, ?_, List.mem_of_getElem? hx⟩) rfl
            · exact List.mem_of_getElem? (i := m) (by rw [List.getElem?_take, if_pos lt]; exact hr')
            · exact List.mem_of_getElem? (i := 0) (by rw [List.getElem?_drop]; exact hr)
        simp [slotsTs.len, nx, tru]
      · cases hm) (fun ρ ⟨o2, o3, e⟩ => by
      subst e
      have hx1 : hasS x r = true := hasS_iff.mpr (List.mem_of_getElem? hx)
      have bi : bmD .index (.tup (sd r)) [.str x] S = .ok (.int (j : Nat)) S := by
        show (match seqOf S (.tup (sd r)) with
          | some xs => match strs? xs with
            | some l => ok? ((idxOf x l).map fun j : Nat => D.int j) S
            | none => .bad
          | none => .bad) = _
        show (match strs? (sd r) with
            | some l => ok? ((idxOf x l).map fun j : Nat => D.int j) S
            | none => Out.bad) = _
        rw [strs_sd]
        show ok? ((idxOf x r).map fun j : Nat => D.int j) S = _
        rw [ix]
        rfl
      have bk : bmK .index (.tup (sd r)) S = true := rfl
      simp [slotsTs.len, hx1, tru, bi, bk])
  rw [← spl] at out
  rw [callN_eq h rfl]
  show gcO S (bodyO (evSs (callN Γ k) (.cons xlc1 (.cons xlc2 .nil)) [some (.tup (fd fl)), some (.str x), none, none] S)) = _
  have e1 : evS (callN Γ k) xlc1 [some (.tup (fd fl)), some (.str x), none, none] S = .rt (.tup [.int i, .int j]) S := by
    rw [xlc1, st_for', enum_tup (xs := fd fl) rfl]
    exact out
  rw [evss_cons, e1]
  exact gc_same rfl
end
end Iv

set_option maxRecDepth 100000
namespace Iv
open PySem
/-! ### errors, step by step -/
section
variable {F : Fns} {ρ : Env} {S : Store} {α β : Type}
@[simp] theorem st_rse' {c : Nat} {fs : List Str} {es : IEs} : evS F (.rse c fs es) ρ S = (evEs F es ρ S).bindS fun ds S1 => if ds.length = fs.length ∧ xOk ds = true then .ex c (fs.zip ds).reverse S1 else .bad := id rfl
@[simp] theorem bindS_ex {c : Nat} {fs : List (Str × D)} {f : Env → Store → OutS} : (OutS.ex c fs S).bind f = .ex c fs S := id rfl
@[simp] theorem bindTI_ex {c : Nat} {fs : List (Str × D)} {f : Env → Store → OutS} : @bindTI (OutS.ex c fs S) ⟨f⟩ = .ex c fs S := id rfl
@[simp] theorem bind_ex {c : Nat} {fs : List (Str × D)} {f : α → Store → Out β} : (Out.ex c fs S : Out α).bind f = .ex c fs S := id rfl
@[simp] theorem bindI_ex {c : Nat} {fs : List (Str × D)} {f : α → Store → Out β} : @bindI α β (Out.ex c fs S) ⟨f⟩ = .ex c fs S := id rfl
@[simp] theorem bindSI_ex {c : Nat} {fs : List (Str × D)} {f : α → Store → OutS} : @bindSI α (Out.ex c fs S) ⟨f⟩ = .ex c fs S := id rfl
@[simp] theorem body_ex {c : Nat} {fs : List (Str × D)} : bodyO (.ex c fs S) = .ex c fs S := id rfl
@[simp] theorem gco_ex {c : Nat} {fs : List (Str × D)} {S' : Store} : gcO S (.ex c fs S') = .ex c fs S' := id rfl
end
theorem xok_str {x : Str} (h : x.length ≤ 5000) : xOk [.str x] = true := by
  show (decide (x.length ≤ 5000) && true) = true
  rw [decide_eq_true h]
  rfl
theorem evss_ex {F : Fns} {s : IS} {r : ISs} {ρ : Env} {S S' : Store} {c : Nat} {fs : List (Str × D)} (h : evS F s ρ S = .ex c fs S') : evSs F (.cons s r) ρ S = .ex c fs S' := by
  rw [evss_cons, h]
  rfl
section
variable {Γ : Nat → Option FDef} {k R C : Nat} {S : Store} {fl : List (List Str)}
/-- a name that is not there -/
theorem locate2_no (h : Γ i_locate_2 = some f_locate_2) {x : Str} (hx : x ∉ fl.flatten) (hl : x.length ≤ 5000) : callN Γ (k + 1) i_locate_2 [.tup (fd fl), .str x] S = .ex 2 [("name", .str x)] S := by
  rw [callN_eq h rfl]
  obtain ⟨ρ', S', e0, ⟨o2, o3, e1⟩, e2⟩ := loopF_all (src := .free) (f := fun x ρ S => (asgT (callN Γ k) (.tup (.cons (.nm 2) (.cons (.nm 3) (.nil)))) x ρ S).bindS (fun ρ' S' => evSs (callN Γ k) (.cons (.ife (.cmp .In (.var 1) (.var 3)) (.cons (.ret (.some (.tup (.cons (.var 2) (.cons (.bm .index (.var 3) (.cons (.var 1) (.nil))) (.nil)))))) (.nil)) (.nil)) (.nil)) ρ' S')) (xs := enumL 0 (fd fl)) (ρ := [some (.tup (fd fl)), some (.str x), none, none]) (S := S)
    (fun i ρ S' => (∃ o2 o3, ρ = [some (.tup (fd fl)), some (.str x), o2, o3]) ∧ S' = S) ⟨⟨none, none, rfl⟩, rfl⟩ (fun i y ρ S' ⟨⟨o2, o3, e1⟩, e2⟩ hi => by
      subst e1 e2
      obtain ⟨z, hz, rfl⟩ := enumL_get hi
      obtain ⟨r, hr, rfl⟩ := fd_get' hz
      have nx : hasS x r = false := by
        cases e : hasS x r with
        | false => rfl
        | true => exact absurd (List.mem_flatten.mpr ⟨r, List.mem_of_getElem? hr, hasS_iff.mp e⟩) hx
      refine ⟨rfl, [some (.tup (fd fl)), some (.str x), some (.int (0 + i)), some (.tup (sd r))], _, .inl ?_, ⟨_, _, rfl⟩, rfl⟩
      simp [slotsTs.len, nx, tru]) (fun _ _ _ => rfl)
  subst e1 e2
  have es : evS (callN Γ k) xlc1 [some (.tup (fd fl)), some (.str x), none, none] S' = .nx [some (.tup (fd fl)), some (.str x), o2, o3] S' := by
    rw [xlc1, st_for', enum_tup (xs := fd fl) rfl]
    exact e0
  show gcO S' (bodyO (evSs (callN Γ k) (.cons xlc1 (.cons xlc2 .nil)) [some (.tup (fd fl)), some (.str x), none, none] S')) = _
  have ox := xok_str hl
  rw [evss_nx es]
  simp [ox]
end
end Iv

set_option maxRecDepth 100000
namespace Iv
open PySem
/-! ### comprehensions over lists of any things -/
theorem lcA {α : Type} {F : Fns} {e : IE} {t : IT} {it : II} {c : IO} {ρ : Env} {S S1 : Store} {src : Src} {l : List α} {enc : α → D} (g : α → Option D) (hi : evI F it ρ S = .ok (l.map enc, src) S1) (hz : l.length < 1000000) (hs : ∀ T, src.ok (S1 ++ T) = true)
    (hf : ∀ a ∈ l, ∀ acc, ∃ T, turnC F e t c ρ (enc a) (S1 ++ [Cell.lst acc]) = .ok (g a) (S1 ++ [Cell.lst acc] ++ T)) (hc : ∀ a ∈ l, ∀ d, g a = some d → ∀ n, d.cl n = true) :
    evE F (.lc e t it c) ρ S = .ok (.loc S1.length) (S1 ++ [Cell.lst (l.filterMap g)]) := by
  obtain ⟨S', e1, h⟩ := loopC_all (src := src) (f := turnC F e t c ρ) (n := S1.length) (xs := l.map enc) (S := S1 ++ [Cell.lst []]) (fun i S' => S' = S1 ++ [Cell.lst ((l.take i).filterMap g)]) (by simp) (fun i x S' h hi => by
    subst h
    rw [List.getElem?_map] at hi
    obtain ⟨a, ha, rfl⟩ := Option.map_eq_some_iff.mp hi
    refine ⟨hs _, _, ?_, rfl⟩
    obtain ⟨T, hT⟩ := hf a (List.mem_of_getElem? ha) ((l.take i).filterMap g)
    unfold oneC
    rw [hT]
    have tk : l.take (i + 1) = l.take i ++ [a] := by rw [List.take_succ, ha]; rfl
    cases hg : g a with
    | none =>
      show (gc _ D.non _).bind _ = _
      rw [gc_drop rfl, bind_ok, tk, List.filterMap_append, List.filterMap_cons, hg, List.filterMap_nil, List.append_nil]
    | some d =>
      show (gc _ d _).bind _ = _
      rw [gc_drop (hc a (List.mem_of_getElem? ha) d hg _), bind_ok]
      have g1 : (S1 ++ [Cell.lst ((l.take i).filterMap g)])[S1.length]? = some (.lst ((l.take i).filterMap g)) := by rw [get_app0]; rfl
      simp only [g1]
      have z : ((l.take i).filterMap g).length < sizeLine := by
        have := List.length_filterMap_le g (l.take i)
        rw [List.length_take] at this
        rw [sizeLine_eq]
        omega
      rw [if_pos z, set_new0, tk, List.filterMap_append, List.filterMap_cons, hg, List.filterMap_nil]
      rfl) (fun S' h => by subst h; exact hs _)
  rw [List.length_map, List.take_of_length_le (Nat.le_refl _)] at h
  rw [ev_lc, hi, bind_ok]
  show (loopC src (turnC F e t c ρ) S1.length (l.map enc) (S1 ++ [Cell.lst []])).bind _ = _
  rw [e1, h]
  rfl
/-- each thing gives one -/
theorem lcM {α : Type} {F : Fns} {e : IE} {t : IT} {it : II} {ρ : Env} {S S1 : Store} {src : Src} {l : List α} {enc : α → D} (g : α → D) (hi : evI F it ρ S = .ok (l.map enc, src) S1) (hz : l.length < 1000000) (hs : ∀ T, src.ok (S1 ++ T) = true)
    (hf : ∀ a ∈ l, ∀ acc, ∃ T, turnC F e t .none ρ (enc a) (S1 ++ [Cell.lst acc]) = .ok (some (g a)) (S1 ++ [Cell.lst acc] ++ T)) (hc : ∀ a ∈ l, ∀ n, (g a).cl n = true) :
    evE F (.lc e t it .none) ρ S = .ok (.loc S1.length) (S1 ++ [Cell.lst (l.map g)]) := by
  have h := lcA (fun a => some (g a)) hi hz hs hf (fun a ha d hd n => by cases hd; exact hc a ha n)
  rwa [filterMap_some] at h
/-! ### a row: a tuple, or a list in the store -/
def SeqAt (S : Store) (d : D) (ds : List D) : Prop := d = .tup ds ∨ ∃ n, d = .loc n ∧ S[n]? = some (.lst ds)
section
variable {S T : Store} {d : D} {ds : List D}
theorem SeqAt.app (h : SeqAt S d ds) : SeqAt (S ++ T) d ds := by
  rcases h with h | ⟨n, h, g⟩
  · exact .inl h
  · exact .inr ⟨n, h, get_old g⟩
theorem SeqAt.seq (h : SeqAt S d ds) : seqOf S d = some ds := by
  rcases h with rfl | ⟨n, rfl, g⟩
  · rfl
  · exact seq_loc g
theorem SeqAt.evi (h : SeqAt S d ds) {F : Fns} {e : IE} {ρ : Env} {S0 : Store} (he : evE F e ρ S0 = .ok d S) : ∃ src, evI F (.val e) ρ S0 = .ok (ds, src) S ∧ ∀ T, src.ok (S ++ T) = true := by
  refine ⟨srcOf d ds, ?_, fun T => ?_⟩
  · rw [evi_val, he, bind_ok]
    have w : walkOf S d = some ds := by
      rcases h with rfl | ⟨n, rfl, g⟩
      · rfl
      · exact seq_loc g
    simp only [w]
  · rcases h with rfl | ⟨n, rfl, g⟩
    · rfl
    · refine decide_eq_true ?_
      show lstAt (S ++ T) n = some ds
      unfold lstAt
      rw [get_old g]
theorem SeqAt.sort {l : List Str} (h : SeqAt S d (sd l)) (hl : l.length < 1000) : bfD .sorted [d] S = .ok (.loc S.length) (S ++ [Cell.lst (sd (sortS l))]) := by
  rcases h with rfl | ⟨n, rfl, g⟩
  · show (match sortD S (sd l) with
      | some ys => newC (.lst ys) S
      | none => .bad) = _
    rw [sortD_sd hl]
    rfl
  · exact sorted_loc g hl
end
/-! ### the least name -/
def mn (r : List Str) : Str := (sortS r).headD ""
theorem sorted_hd {r : List Str} (h : r ≠ []) : (sortS r)[0]? = some (mn r) := by
  have l := (sortS_perm r).length_eq
  have p : 0 < r.length := List.length_pos_iff.mpr h
  unfold mn
  cases e : sortS r with
  | nil => rw [e] at l; simp at l; omega
  | cons a t => rfl
theorem mn_mem {r : List Str} (h : r ≠ []) : mn r ∈ r := (sortS_perm r).subset (List.mem_of_getElem? (sorted_hd h))
theorem mn_le {r : List Str} {x : Str} (hx : x ∈ r) : leStr (mn r) x = true := by
  have h : r ≠ [] := fun e => by rw [e] at hx; cases hx
  have m := (sortS_perm r).symm.subset hx
  have so := sortS_sorted r
  have h0 := sorted_hd h
  cases e : sortS r with
  | nil => rw [e] at m; cases m
  | cons a t =>
    rw [e] at m so h0
    have h0 : a = mn r := by simpa using h0
    rw [← h0]
    rcases List.mem_cons.mp m with rfl | m
    · have := leStr_total x x
      simpa using this
    · exact (List.pairwise_cons.mp so).1 x m
theorem minF : ∀ (l : List Str) (a : Str), (l.foldl (fun x y => if ltStr y x then y else x) a ∈ a :: l) ∧ ∀ x ∈ a :: l, leStr (l.foldl (fun x y => if ltStr y x then y else x) a) x = true
  | [], a => ⟨List.mem_cons_self, fun x hx => by
      rw [List.mem_singleton.mp hx]
      have := leStr_total a a
      simpa using this⟩
  | b :: l, a => by
    obtain ⟨h1, h2⟩ := minF l (if ltStr b a then b else a)
    simp only [List.foldl_cons]
    generalize l.foldl (fun x y => if ltStr y x then y else x) (if ltStr b a then b else a) = m at *
    have q := h2 _ List.mem_cons_self
    cases e : ltStr b a with
    | true =>
      rw [e] at h1 h2 q
      simp only [if_true] at h1 h2 q
      refine ⟨List.mem_cons_of_mem _ h1, fun x hx => ?_⟩
      rcases List.mem_cons.mp hx with rfl | hx
      · refine leStr_trans m b x q ?_
        rw [← not_lt_le]
        have := leStr_total b x
        rw [← not_lt_le, ← not_lt_le, e] at this
        simpa using this
      · exact h2 x hx
    | false =>
      rw [e] at h1 h2 q
      simp only [Bool.false_eq_true, if_false] at h1 h2 q
      refine ⟨?_, fun x hx => ?_⟩
      · rcases List.mem_cons.mp h1 with h1 | h1
        · rw [h1]; exact List.mem_cons_self
        · exact List.mem_cons_of_mem _ (List.mem_cons_of_mem _ h1)
      · rcases List.mem_cons.mp hx with rfl | hx
        · exact q
        rcases List.mem_cons.mp hx with rfl | hx
        · refine leStr_trans m a x q ?_
          rw [← not_lt_le, e]
          rfl
        · exact h2 x (List.mem_cons_of_mem _ hx)
theorem minS_mn {r : List Str} (h : r ≠ []) : minS r = some (mn r) := by
  cases r with
  | nil => exact absurd rfl h
  | cons a l =>
    obtain ⟨h1, h2⟩ := minF l a
    show some _ = _
    congr 1
    exact leStr_anti (h2 _ (mn_mem h)) (mn_le h1)
theorem ints_sd : ∀ {r : List Str}, r ≠ [] → ints? (sd r) = none
  | [], h => absurd rfl h
  | _ :: _, _ => rfl
theorem SeqAt.min {S : Store} {d : D} {r : List Str} (h : SeqAt S d (sd r)) (hr : r ≠ []) : bfD .min1 [d] S = .ok (.str (mn r)) S := by
  show (match seqOf S d with
    | none => Out.bad
    | some xs => match ints? xs, strs? xs with
      | some l, none => ok? ((minI l).map D.int) S
      | none, some l => ok? ((minS l).map D.str) S
      | _, _ => .bad) = _
  rw [h.seq]
  simp only [ints_sd hr, strs_sd, minS_mn hr]
  rfl
end Iv

set_option maxRecDepth 100000
namespace Iv
open PySem
/-! ### names of any kind -/
theorem up_in8 : ∀ c : Nat, c < 128 → inStr (cS [c]) upS = decide (65 ≤ c ∧ c < 91) := by decide +kernel
theorem low_in8 : ∀ c : Nat, c < 128 → inStr (cS [c]) lowS = decide (97 ≤ c ∧ c < 123) := by decide +kernel
theorem both_in8 : ∀ c : Nat, c < 128 → inStr (cS [c]) (lowS ++ upS) = (decide (65 ≤ c ∧ c < 91) || decide (97 ≤ c ∧ c < 123)) := by decide +kernel
def loC (c : Nat) : Bool := decide (97 ≤ c ∧ c < 123)
def upC (c : Nat) : Bool := decide (65 ≤ c ∧ c < 91)
def nameL : List Nat → Bool
  | [] => false
  | c :: r => decide (r.length ≤ 5) && ((upC c || loC c) && r.all loC)
theorem nameL_cons (c : Nat) (r : List Nat) : nameL (c :: r) = (decide (r.length ≤ 5) && ((upC c || loC c) && r.all loC)) := rfl
theorem bad_fm : ∀ r : List Nat, r.filterMap (fun c => if loC c = true then none else some (D.str (cS [c]))) = sd ((r.filter fun c => !loC c).map fun c => cS [c])
  | [] => rfl
  | a :: r => by
    rw [List.filterMap_cons, List.filter_cons]
    cases hb : loC a with
    | true => simp only [if_true, Bool.not_true, Bool.false_eq_true, if_false]; exact bad_fm r
    | false => simp only [Bool.false_eq_true, if_false, Bool.not_false, if_true, List.map_cons]; rw [bad_fm r]; rfl
theorem bad_nil : ∀ r : List Nat, decide ((r.filter fun c => !loC c).map (fun c => cS [c]) = []) = r.all loC
  | [] => rfl
  | a :: r => by
    rw [List.filter_cons, List.all_cons]
    cases hb : loC a with
    | true => simp only [Bool.not_true, Bool.false_eq_true, if_false, Bool.true_and]; exact bad_nil r
    | false => simp
def nameB (x : Str) : Bool := nameL x.cps.toList
/-- a text of plain signs -/
structure Tx (x : Str) : Prop where
  ex : ∃ l, x = cS l ∧ l.length ≤ 5000 ∧ ∀ c ∈ l, c < 128
theorem Tx.len {x : Str} (h : Tx x) : x.length ≤ 5000 := by
  obtain ⟨l, rfl, h, _⟩ := h.ex
  rw [cS_len]
  exact h
theorem NmOk.tx {x : Str} (h : NmOk x) : Tx x := by
  obtain ⟨c, r, rfl, hc, hr, hx⟩ := h.ex
  refine ⟨c :: r, rfl, by rw [List.length_cons]; omega, fun y hy => ?_⟩
  rcases List.mem_cons.mp hy with rfl | hy
  · omega
  · have := hx y hy
    omega
theorem bls_map : ∀ l : List Bool, bls? (l.map D.bl) = some l
  | [] => rfl
  | b :: l => by
    show (bls? (l.map D.bl)).map (b :: ·) = _
    rw [bls_map l]
    rfl
theorem lt_ii {i j : Int} {S : Store} : cmpD .Lt (.int i) (.int j) S = some (decide (i < j)) := rfl
section
variable {Γ : Nat → Option FDef} {k : Nat} {S : Store}
theorem len_tx {x : Str} (h : x.length ≤ 5000) {S : Store} : bfD .len [.str x] S = .ok (.int (x.length : Nat)) S := by
  show ok? ((if x.length ≤ sizeLine then some x.length else none).map fun n : Nat => D.int n) S = _
  rw [if_pos (by rw [sizeLine_eq]; omega)]
  rfl
theorem slc_big {l : List Nat} {i : Nat} {S : Store} (h : l.length ≤ 5000) : slD (.str (cS l)) (some (i : Int)) none S = .ok (.str (cS (l.drop i))) S := by
  show (if (cS l).length ≤ sizeLine then Out.ok (D.str ⟨(cutL (cS l).cps.toList (some (i : Int)) none).toArray⟩) S else .bad) = _
  rw [if_pos (by rw [cS_len, sizeLine_eq]; omega), cut_from]
  rfl
theorem ix_big {a : List Nat} {i : Int} {S : Store} (h : a.length ≤ 5000) : ixD (.str (cS a)) (.int i) S = (ixAt a i).map fun c => D.str (cS [c]) := by
  show (if (cS a).length ≤ sizeLine then (ixAt (cS a).cps.toList i).map (fun c => D.str ⟨#[c]⟩) else none) = _
  rw [if_pos (by rw [cS_len, sizeLine_eq]; omega)]
  rfl
/-- a comprehension over a text's signs -/
theorem chr_lc {F : Fns} {e : IE} {c : IO} {v : Nat} {ρ : Env} {S : Store} {r : List Nat} {src : IE} (g : Nat → Option D) (he : evE F src ρ S = .ok (.str (cS r)) S) (hr : r.length ≤ 5000)
    (hf : ∀ a ∈ r, ∀ acc, turnC F e (.nm v) c ρ (.str (cS [a])) (S ++ [Cell.lst acc]) = .ok (g a) (S ++ [Cell.lst acc])) (hc : ∀ a ∈ r, ∀ d, g a = some d → ∀ n, d.cl n = true) :
    evE F (.lc e (.nm v) (.val src) c) ρ S = .ok (.loc S.length) (S ++ [Cell.lst (r.filterMap g)]) := by
  refine lcA (l := r) (enc := fun c => D.str (cS [c])) (src := .free) g ?_ (by omega) (fun _ => rfl) (fun a ha acc => ⟨[], by rw [List.append_nil]; exact hf a ha acc⟩) hc
  rw [evi_val, he, bind_ok]
  rfl
theorem is_name_fn (h : Γ i_is_name = some f_is_name) {x : Str} (hx : Tx x) : callN Γ (k + 1) i_is_name [.str x] S = .ok (.bl (nameB x)) S := by
  obtain ⟨l, rfl, hl, hc⟩ := hx.ex
  have hn : nameB (cS l) = nameL l := rfl
  rw [hn, callN_eq h rfl]
  have ln := len_tx (x := cS l) (S := S) (by rw [cS_len]; exact hl)
  rw [cS_len] at ln
  cases l with
  | nil =>
    generalize callN Γ k = F at *
    have ln : bfD .len [.str (cS [])] S = .ok (.int 0) S := ln
    have gd : gc S (.bl false) S = .ok (.bl false) S := gc_same rfl
    simp [f_is_name, ln, nameL, tru, gd]
  | cons c r =>
    by_cases z : r.length ≤ 5
    · have i0 : ∀ S, ixD (.str (cS (c :: r))) (.int 0) S = some (.str (cS [c])) := fun S => by rw [ix_big hl, ixAt_0]; rfl
      have sl : slD (.str (cS (c :: r))) (some 1) none S = .ok (.str (cS r)) S := slc_big (i := 1) hl
      have c8 := hc c List.mem_cons_self
      have u1 : cmpD .In (.str (cS [c])) (.str "ABCDEFGHIJKLMNOPQRSTUVWXYZ") S = some (upC c) := by rw [in_str]; exact congrArg some (up_in8 c c8)
      have u2 : ∀ S, ∀ c, c < 128 → cmpD .In (.str (cS [c])) (.str "abcdefghijklmnopqrstuvwxyz") S = some (loC c) := fun S c h => by rw [in_str]; exact congrArg some (low_in8 c h)
      have u3 := u2 S c c8
      have lc := chr_lc (F := callN Γ k) (e := .cmp .In (.var 1) (.glo "LOWER" (.str "abcdefghijklmnopqrstuvwxyz"))) (c := .none) (v := 1) (ρ := [some (.str (cS (c :: r))), none]) (S := S) (r := r) (src := .slc (.var 0) (.some (.con (.int 1))) (.none)) (fun c => some (.bl (loC c))) (by
        generalize callN Γ k = F at *
        simp [sl]) (by rw [List.length_cons] at hl; omega) (fun a ha acc => by
        have := u2 (S ++ [Cell.lst acc]) a (hc a (List.mem_cons_of_mem _ ha))
        generalize S ++ [Cell.lst acc] = U at *
        generalize callN Γ k = F at *
        generalize ("abcdefghijklmnopqrstuvwxyz" : Str) = z at *
        simp [turnC, bindT, slotsT, wipeE, evC, this]) (fun a _ d hd n => by cases hd; rfl)
      have e1 : r.filterMap (fun c => some (D.bl (loC c))) = (r.map loC).map D.bl := by rw [filterMap_some, List.map_map]; rfl
      rw [e1] at lc
      have al : bfD .all [.loc S.length] (S ++ [Cell.lst ((r.map loC).map D.bl)]) = .ok (.bl (r.all loC)) (S ++ [Cell.lst ((r.map loC).map D.bl)]) := by
        show ok? (((listOf (S ++ [Cell.lst ((r.map loC).map D.bl)]) (.loc S.length)).bind bls?).map fun l => D.bl (l.all id)) _ = _
        have : listOf (S ++ [Cell.lst ((r.map loC).map D.bl)]) (.loc S.length) = some ((r.map loC).map D.bl) := by simp [listOf, lstAt]
        rw [this]
        show ok? ((bls? ((r.map loC).map D.bl)).map fun l => D.bl (l.all id)) _ = _
        rw [bls_map]
        show ok? (some (D.bl ((r.map loC).all id))) _ = _
        rw [List.all_map]
        rfl
      have gd : ∀ b, gc S (.bl b) (S ++ [Cell.lst ((r.map loC).map D.bl)]) = .ok (.bl b) S := fun b => gc_drop rfl
      have gs : ∀ b, gc S (.bl b) S = .ok (.bl b) S := fun b => gc_same rfl
      have z' : ((r.length : Int) + 1) ≤ 6 := by omega
      have z1 : (1 : Int) ≤ (r.length : Int) + 1 := by omega
      have nl : nameL (c :: r) = ((upC c || loC c) && r.all loC) := by rw [nameL_cons, decide_eq_true z, Bool.true_and]
      rw [nl]
      have ln : bfD .len [.str (cS (c :: r))] S = .ok (.int ((r.length : Int) + 1)) S := by rw [ln, List.length_cons]; rfl
      generalize r.all loC = b at *
      generalize S ++ [Cell.lst ((r.map loC).map D.bl)] = U at *
      generalize upC c = bu at *
      generalize loC c = bl at *
      generalize callN Γ k = F at *
      cases bu <;> cases bl <;> simp [f_is_name, ln, z', z1, i0, u1, u3, lc, al, gd, gs, tru]
    · have nl : nameL (c :: r) = false := by rw [nameL_cons, decide_eq_false z, Bool.false_and]
      rw [nl]
      have z' : ¬ ((r.length : Int) + 1) ≤ 6 := by omega
      have z1 : (1 : Int) ≤ (r.length : Int) + 1 := by omega
      have ln : bfD .len [.str (cS (c :: r))] S = .ok (.int ((r.length : Int) + 1)) S := by rw [ln, List.length_cons]; rfl
      have gd : gc S (.bl false) S = .ok (.bl false) S := gc_same rfl
      generalize callN Γ k = F at *
      simp [f_is_name, ln, z', z1, tru, gd]
theorem lname_fn (h : Γ i__law_is_name = some f__law_is_name) {x : Str} (hx : Tx x) : callN Γ (k + 1) i__law_is_name [.str x] S = .ok (.bl (nameB x)) S := by
  obtain ⟨l, rfl, hl, hc⟩ := hx.ex
  have hn : nameB (cS l) = nameL l := rfl
  rw [hn, callN_eq h rfl]
  have ln := len_tx (x := cS l) (S := S) (by rw [cS_len]; exact hl)
  rw [cS_len] at ln
  have gs : ∀ b, gc S (.bl b) S = .ok (.bl b) S := fun b => gc_same rfl
  cases l with
  | nil =>
    generalize callN Γ k = F at *
    have ln : bfD .len [.str (cS [])] S = .ok (.int 0) S := ln
    simp [f__law_is_name, ln, nameL, tru, gs]
  | cons c r =>
    have ln : bfD .len [.str (cS (c :: r))] S = .ok (.int ((r.length : Int) + 1)) S := by rw [ln, List.length_cons]; rfl
    have z1 : ¬ ((r.length : Int) + 1) < 1 := by omega
    by_cases z : r.length ≤ 5
    · have z' : ¬ (6 : Int) < ((r.length : Int) + 1) := by omega
      have i0 : ∀ S, ixD (.str (cS (c :: r))) (.int 0) S = some (.str (cS [c])) := fun S => by rw [ix_big hl, ixAt_0]; rfl
      have sl : slD (.str (cS (c :: r))) (some 1) none S = .ok (.str (cS r)) S := slc_big (i := 1) hl
      have c8 := hc c List.mem_cons_self
      have ad : opD .Add (.str "abcdefghijklmnopqrstuvwxyz") (.str "ABCDEFGHIJKLMNOPQRSTUVWXYZ") S = .ok (.str (lowS ++ upS)) S := by
        show (if Operator.Add = .Add ∧ lowS.length + upS.length ≤ sizeLine then Out.ok (D.str (lowS ++ upS)) S else .bad) = _
        rw [if_pos ⟨rfl, by rw [sizeLine_eq]; decide +kernel⟩]
      have u1 : cmpD .NotIn (.str (cS [c])) (.str (lowS ++ upS)) S = some (!(upC c || loC c)) := by
        show (cmpD .In (.str (cS [c])) (.str (lowS ++ upS)) S).map not = _
        rw [in_str, both_in8 c c8]
        rfl
      have u2 : ∀ S, ∀ c, c < 128 → cmpD .NotIn (.str (cS [c])) (.str "abcdefghijklmnopqrstuvwxyz") S = some (!loC c) := fun S c h => by
        show (cmpD .In (.str (cS [c])) (.str lowS) S).map not = _
        rw [in_str, low_in8 c h]
        rfl
      have lc := chr_lc (F := callN Γ k) (e := .var 2) (c := .some (.cmp .NotIn (.var 2) (.var 1))) (v := 2) (ρ := [some (.str (cS (c :: r))), some (.str "abcdefghijklmnopqrstuvwxyz"), none]) (S := S) (r := r) (src := .slc (.var 0) (.some (.con (.int 1))) (.none)) (fun c => if loC c = true then none else some (.str (cS [c]))) (by
        generalize callN Γ k = F at *
        simp [sl]) (by rw [List.length_cons] at hl; omega) (fun a ha acc => by
        have := u2 (S ++ [Cell.lst acc]) a (hc a (List.mem_cons_of_mem _ ha))
        generalize S ++ [Cell.lst acc] = U at *
        generalize callN Γ k = F at *
        generalize ("abcdefghijklmnopqrstuvwxyz" : Str) = z at *
        cases hb : loC a <;> rw [hb] at this <;> simp [turnC, bindT, slotsT, wipeE, evC, this, tru]) (fun a _ d hd n => by
        split at hd
        · cases hd
        · cases hd
          rfl)
      have e1 := bad_fm r
      rw [e1] at lc
      have en := eq_nil (c := (r.filter fun c => !loC c).map fun c => cS [c]) (S := S ++ [Cell.lst (sd ((r.filter fun c => !loC c).map fun c => cS [c]))] ++ [Cell.lst []]) (n := S.length) (m := (S ++ [Cell.lst (sd ((r.filter fun c => !loC c).map fun c => cS [c]))]).length) (get_old (by rw [get_app0]; rfl)) (by rw [get_app0]; rfl)
      have e2 := bad_nil r
      rw [e2] at en
      have gd : ∀ b, gc S (.bl b) (S ++ [Cell.lst (sd ((r.filter fun c => !loC c).map fun c => cS [c]))] ++ [Cell.lst []]) = .ok (.bl b) S := fun b => by rw [List.append_assoc]; exact gc_drop rfl
      have nl : nameL (c :: r) = ((upC c || loC c) && r.all loC) := by rw [nameL_cons, decide_eq_true z, Bool.true_and]
      rw [nl]
      generalize r.all loC = b at *
      have nw : ∀ T, newC (.lst []) T = .ok (.loc T.length) (T ++ [Cell.lst []]) := fun T => rfl
      have nw := nw (S ++ [Cell.lst (sd ((r.filter fun c => !loC c).map fun c => cS [c]))])
      generalize S ++ [Cell.lst (sd ((r.filter fun c => !loC c).map fun c => cS [c]))] ++ [Cell.lst []] = V at *
      generalize S ++ [Cell.lst (sd ((r.filter fun c => !loC c).map fun c => cS [c]))] = U at *
      generalize (upC c || loC c) = bu at *
      generalize callN Γ k = F at *
      cases bu <;> simp [-newc, f__law_is_name, ln, z', z1, i0, ad, u1, lc, nw, en, gd, gs, tru]
    · have nl : nameL (c :: r) = false := by rw [nameL_cons, decide_eq_false z, Bool.false_and]
      rw [nl]
      have z' : (6 : Int) < ((r.length : Int) + 1) := by omega
      generalize callN Γ k = F at *
      simp [f__law_is_name, ln, z', z1, tru, gs]
end
end Iv

set_option maxRecDepth 100000
namespace Iv
open PySem
/-! ### the first wrong place -/
def scanR (w i : Nat) (r : List Str) : Nat → Nat → List Str → Option Nat × List Str
  | 0, _, seen => (none, seen)
  | m + 1, j, seen => if 12 ≤ i ∨ 12 ≤ j ∨ w ≤ j then (some j, seen) else match r[j]? with
    | none => (some j, seen)
    | some x => if (nameB x && !hasS x seen) = true then scanR w i r m (j + 1) (seen ++ [x]) else (some j, seen)
def scanF (w : Nat) : Nat → List (List Str) → List Str → Option (Nat × Nat)
  | _, [], _ => none
  | i, r :: rs, seen => match scanR w i r (max w r.length) 0 seen with
    | (some j, _) => some (i, j)
    | (none, seen') => scanF w (i + 1) rs seen'
def scan : List (List Str) → Option (Nat × Nat)
  | [] => some (0, 0)
  | r :: rs => if r.length = 0 then some (0, 0) else scanF r.length 0 (r :: rs) []
theorem scan_cons (r : List Str) (rs : List (List Str)) : scan (r :: rs) = if r.length = 0 then some (0, 0) else scanF r.length 0 (r :: rs) [] := rfl
/-- what the columns of a row leave -/
theorem scanR_len {w i : Nat} {r : List Str} : ∀ {m j : Nat} {seen : List Str}, j ≤ 12 → seen.length ≤ 12 * i + j → (match scanR w i r m j seen with
    | (none, s) => s.length ≤ 12 * i + 12 ∧ (0 < m → i < 12)
    | (some j', _) => j' ≤ 12)
  | 0, j, seen, h1, h2 => ⟨by omega, fun z => absurd z (Nat.lt_irrefl _)⟩
  | m + 1, j, seen, h1, h2 => by
    unfold scanR
    by_cases c : 12 ≤ i ∨ 12 ≤ j ∨ w ≤ j
    · rw [if_pos c]
      exact h1
    · rw [if_neg c]
      cases hx : r[j]? with
      | none => exact h1
      | some x =>
        dsimp only
        by_cases d : (nameB x && !hasS x seen) = true
        · rw [if_pos d]
          have i := scanR_len (w := w) (i := i) (r := r) (m := m) (j := j + 1) (seen := seen ++ [x]) (by omega) (by rw [List.length_append, List.length_singleton]; omega)
          revert i
          cases scanR w i r m (j + 1) (seen ++ [x]) with
          | mk o s =>
            cases o with
            | none => exact fun q => ⟨q.1, fun _ => by omega⟩
            | some j' => exact fun q => q
        · rw [if_neg d]
          exact h1
theorem scanF_lt {w : Nat} (hw : 0 < w) : ∀ {rs : List (List Str)} {i : Nat} {seen : List Str} {p : Nat × Nat}, i ≤ 12 → seen.length ≤ 12 * i → scanF w i rs seen = some p → p.1 ≤ 12 ∧ p.2 ≤ 12
  | [], _, _, _, _, _, h => by cases h
  | r :: rs, i, seen, p, h1, h2, h => by
    have l := scanR_len (w := w) (i := i) (r := r) (m := max w r.length) (j := 0) (seen := seen) (by omega) (by omega)
    unfold scanF at h
    revert l h
    cases scanR w i r (max w r.length) 0 seen with
    | mk o s =>
      cases o with
      | none =>
        intro l h
        have := l.2 (by omega)
        exact scanF_lt hw (by omega) (by have := l.1; omega) h
      | some j =>
        intro l h
        cases h
        exact ⟨h1, l⟩
theorem scan_lt {fl : List (List Str)} {p : Nat × Nat} (h : scan fl = some p) : p.1 < 13 ∧ p.2 < 13 := by
  cases fl with
  | nil => cases h; decide
  | cons r rs =>
    rw [scan_cons] at h
    by_cases c : r.length = 0
    · rw [if_pos c] at h
      cases h
      decide
    · rw [if_neg c] at h
      have := scanF_lt (Nat.pos_of_ne_zero c) (by omega) (by simp) h
      omega
theorem xok_pos : ∀ i : Nat, i < 13 → ∀ j : Nat, j < 13 → xOk [.int (i : Nat), .int (j : Nat)] = true := by decide +kernel
section
variable {F : Fns} {ρ : Env} {U : Store}
theorem or_ev {A B : IE} {a b : Bool} (hA : evE F A ρ U = .ok (.bl a) U) (hB : a = false → evE F B ρ U = .ok (.bl b) U) : evE F (.or A B) ρ U = .ok (.bl (a || b)) U := by
  rw [ev_or, hA, bind_ok, blo, bind_ok]
  cases a with
  | true => rfl
  | false =>
    rw [if_neg Bool.false_ne_true, hB rfl]
    rfl
theorem one_ev {A : IE} {a : Bool} (hA : evE F A ρ U = .ok (.bl a) U) : evE F (.one A) ρ U = .ok (.bl a) U := hA
theorem ge_ev {A B : IE} {a b : Nat} (hA : evE F A ρ U = .ok (.int (a : Nat)) U) (hB : evE F B ρ U = .ok (.int (b : Nat)) U) : evE F (.cmp .GtE A B) ρ U = .ok (.bl (decide (b ≤ a))) U := by
  rw [ev_cmp, hA, bind_ok, hB, bind_ok, cmp_ge]
  have : decide ((b : Int) ≤ (a : Int)) = decide (b ≤ a) := by rw [decide_eq_decide]; omega
  rw [this]
  rfl
theorem gt_ev {A B : IE} {a b : Nat} (hA : evE F A ρ U = .ok (.int (a : Nat)) U) (hB : evE F B ρ U = .ok (.int (b : Nat)) U) : evE F (.cmp .Gt A B) ρ U = .ok (.bl (decide (b < a))) U := by
  rw [ev_cmp, hA, bind_ok, hB, bind_ok, cmp_gt]
  have : decide ((b : Int) < (a : Int)) = decide (b < a) := by rw [decide_eq_decide]; omega
  rw [this]
  rfl
theorem not_ev {A : IE} {a : Bool} (hA : evE F A ρ U = .ok (.bl a) U) : evE F (.not A) ρ U = .ok (.bl (!a)) U := by
  rw [ev_not, hA, bind_ok, blo, bind_ok]
theorem ife_t {A : IE} {p q : ISs} (hA : evE F A ρ U = .ok (.bl true) U) : evS F (.ife A p q) ρ U = evSs F p ρ U := by
  rw [st_ife, hA]
  rfl
theorem ife_f {A : IE} {p q : ISs} (hA : evE F A ρ U = .ok (.bl false) U) : evS F (.ife A p q) ρ U = evSs F q ρ U := by
  rw [st_ife, hA]
  rfl
end
theorem has_inr (x : Str) : ∀ l : List Str, hasK (.inr x) (l.map Sum.inr) = hasS x l
  | [] => rfl
  | y :: l => by
    show (decide ((Sum.inr y : Key) = .inr x) || hasK (.inr x) (l.map Sum.inr)) = (decide (y = x) || hasS x l)
    rw [has_inr x l]
    congr 1
    exact decide_eq_decide.mpr ⟨fun e => by injection e, fun e => by rw [e]⟩
theorem addK_new {x : Str} {l : List Str} (h : hasS x l = false) : addK (.inr x) (l.map Sum.inr) = (l ++ [x]).map (Sum.inr : Str → Key) := by
  unfold addK
  rw [if_neg (by rw [has_inr, h]; exact Bool.false_ne_true), List.map_append]
  rfl
theorem hasS_not {x : Str} {l : List Str} : hasS x l = false ↔ x ∉ l := by
  rw [← Bool.not_eq_true, hasS_iff]
/-! ### check_floor -/
abbrev zc1 : IS := .ife (.or (.cmp .Eq (.bf .len (.cons (.var 0) (.nil))) (.con (.int 0))) (.one (.cmp .Eq (.bf .len (.cons (.ix (.var 0) (.con (.int 0))) (.nil))) (.con (.int 0))))) (.cons (.rse 1 ["row", "column"] (.cons (.con (.int 0)) (.cons (.con (.int 0)) (.nil)))) (.nil)) (.nil)
abbrev zc2 : IS := .asg (.nm 1) (.bf .len (.cons (.ix (.var 0) (.con (.int 0))) (.nil)))
abbrev zc3 : IS := .asg (.nm 2) (.set0)
abbrev zca : IS := .asg (.nm 6) (.or (.cmp .GtE (.var 3) (.glo "MOST_LINES" (.int 12))) (.or (.cmp .GtE (.var 5) (.glo "MOST_LINES" (.int 12))) (.or (.cmp .GtE (.var 5) (.var 1)) (.one (.cmp .GtE (.var 5) (.bf .len (.cons (.var 4) (.nil))))))))
abbrev zcb : IS := .ife (.or (.var 6) (.or (.not (.call i_is_name (.cons (.ix (.var 4) (.var 5)) (.nil)))) (.one (.cmp .In (.ix (.var 4) (.var 5)) (.var 2))))) (.cons (.rse 1 ["row", "column"] (.cons (.var 3) (.cons (.var 5) (.nil)))) (.nil)) (.nil)
abbrev zcc : IS := .expr (.bm .add (.var 2) (.cons (.ix (.var 4) (.var 5)) (.nil)))
abbrev zci : IS := .for_ (.nm 5) (.range (.cons (.bf .max2 (.cons (.var 1) (.cons (.bf .len (.cons (.var 4) (.nil))) (.nil)))) (.nil))) (.cons zca (.cons zcb (.cons zcc (.nil))))
abbrev zc4 : IS := .for_ (.tup (.cons (.nm 3) (.cons (.nm 4) (.nil)))) (.enum (.var 0)) (.cons zci (.nil))
abbrev zEv (fl : List (List Str)) (w n i : Nat) (r : List Str) (o5 o6 : Option D) : Env := [some (.tup (fd fl)), some (.int (w : Nat)), some (.loc n), some (.int (i : Nat)), some (.tup (sd r)), o5, o6]
abbrev setC' (l : List Str) : Cell := Cell.set (l.map Sum.inr)
abbrev posF (i j : Nat) : List (Str × D) := [("column", .int (j : Nat)), ("row", .int (i : Nat))]
section
variable {Γ : Nat → Option FDef} {k : Nat} {S : Store} {fl : List (List Str)} {w : Nat}
theorem crow_fn (h2 : Γ i_is_name = some f_is_name) {r : List Str} (hr : ∀ x ∈ r, Tx x) {i : Nat} (hi : i ≤ 12) : ∀ (m j : Nat) (seen : List Str) (o5 o6 : Option D), j ≤ 12 → seen.length ≤ 12 * i + j →
    ∃ o5' o6', loopF .free (fun x ρ S => (asgT (callN Γ (k + 1)) (.nm 5) x ρ S).bindS fun ρ' S' => evSs (callN Γ (k + 1)) (.cons zca (.cons zcb (.cons zcc (.nil)))) ρ' S') (rangeL (j : Nat) m) (zEv fl w S.length i r o5 o6) (S ++ [setC' seen]) = (match scanR w i r m j seen with
      | (none, s) => .nx (zEv fl w S.length i r o5' o6') (S ++ [setC' s])
      | (some j', s) => .ex 1 (posF i j') (S ++ [setC' s]))
  | 0, j, seen, o5, o6, _, _ => ⟨o5, o6, rfl⟩
  | m + 1, j, seen, o5, o6, h1, hs => by
    have q0 : asgT (callN Γ (k + 1)) (.nm 5) (.int (j : Nat)) (zEv fl w S.length i r o5 o6) (S ++ [setC' seen]) = .ok (zEv fl w S.length i r (some (.int (j : Nat))) o6) (S ++ [setC' seen]) := rfl
    have va : evS (callN Γ (k + 1)) zca (zEv fl w S.length i r (some (.int (j : Nat))) o6) (S ++ [setC' seen]) = .nx (zEv fl w S.length i r (some (.int (j : Nat))) (some (.bl (decide (12 ≤ i) || (decide (12 ≤ j) || (decide (w ≤ j) || decide (r.length ≤ j))))))) (S ++ [setC' seen]) := by
      have el : evE (callN Γ (k + 1)) (.bf .len (.cons (.var 4) (.nil))) (zEv fl w S.length i r (some (.int (j : Nat))) o6) (S ++ [setC' seen]) = .ok (.int (r.length : Nat)) (S ++ [setC' seen]) := by
        generalize callN Γ (k + 1) = F at *
        simp [sd_len]
      have e := or_ev (F := callN Γ (k + 1)) (ρ := zEv fl w S.length i r (some (.int (j : Nat))) o6) (U := S ++ [setC' seen]) (ge_ev (A := .var 3) (B := .glo "MOST_LINES" (.int 12)) (a := i) (b := 12) rfl rfl) fun _ => or_ev (ge_ev (A := .var 5) (B := .glo "MOST_LINES" (.int 12)) (a := j) (b := 12) rfl rfl) fun _ => or_ev (ge_ev (A := .var 5) (B := .var 1) (a := j) (b := w) rfl rfl) fun _ => one_ev (ge_ev (A := .var 5) (a := j) rfl el)
      rw [zca, st_asg', e]
      rfl
    have xp := xok_pos i (by omega) j (by omega)
    have rs : ∀ {b : Bool} (T : Store), evSs (callN Γ (k + 1)) (.cons (.rse 1 ["row", "column"] (.cons (.var 3) (.cons (.var 5) (.nil)))) (.nil)) (zEv fl w S.length i r (some (.int (j : Nat))) (some (.bl b))) T = .ex 1 (posF i j) T := fun T => by
      generalize callN Γ (k + 1) = F at *
      simp [xp]
    show ∃ o5' o6', loopF .free _ (.int (j : Nat) :: rangeL ((j : Int) + 1) m) _ _ = _
    unfold loopF
    rw [if_pos (show Src.free.ok (S ++ [setC' seen]) = true from rfl), q0, bindS_ok, evss_nx va]
    unfold scanR
    by_cases c : 12 ≤ i ∨ 12 ≤ j ∨ w ≤ j
    · rw [if_pos c]
      have d : (decide (12 ≤ i) || (decide (12 ≤ j) || (decide (w ≤ j) || decide (r.length ≤ j)))) = true := by
        rcases c with c | c | c <;> simp [c]
      rw [d]
      have vb : evS (callN Γ (k + 1)) zcb (zEv fl w S.length i r (some (.int (j : Nat))) (some (.bl true))) (S ++ [setC' seen]) = .ex 1 (posF i j) (S ++ [setC' seen]) := by
        have e : evE (callN Γ (k + 1)) (.or (.var 6) (.or (.not (.call i_is_name (.cons (.ix (.var 4) (.var 5)) (.nil)))) (.one (.cmp .In (.ix (.var 4) (.var 5)) (.var 2))))) (zEv fl w S.length i r (some (.int (j : Nat))) (some (.bl true))) (S ++ [setC' seen]) = .ok (.bl true) (S ++ [setC' seen]) := or_ev (a := true) (b := true) rfl fun z => by cases z
        rw [zcb, ife_t e, rs]
      rw [evss_ex vb]
      exact ⟨none, none, rfl⟩
    · rw [if_neg c]
      have c1 : ¬ 12 ≤ i := fun z => c (.inl z)
      have c2 : ¬ 12 ≤ j := fun z => c (.inr (.inl z))
      have c3 : ¬ w ≤ j := fun z => c (.inr (.inr z))
      cases hx : r[j]? with
      | none =>
        have lj : r.length ≤ j := List.getElem?_eq_none_iff.mp hx
        have d : (decide (12 ≤ i) || (decide (12 ≤ j) || (decide (w ≤ j) || decide (r.length ≤ j)))) = true := by simp [lj]
        rw [d]
        have vb : evS (callN Γ (k + 1)) zcb (zEv fl w S.length i r (some (.int (j : Nat))) (some (.bl true))) (S ++ [setC' seen]) = .ex 1 (posF i j) (S ++ [setC' seen]) := by
          have e : evE (callN Γ (k + 1)) (.or (.var 6) (.or (.not (.call i_is_name (.cons (.ix (.var 4) (.var 5)) (.nil)))) (.one (.cmp .In (.ix (.var 4) (.var 5)) (.var 2))))) (zEv fl w S.length i r (some (.int (j : Nat))) (some (.bl true))) (S ++ [setC' seen]) = .ok (.bl true) (S ++ [setC' seen]) := or_ev (a := true) (b := true) rfl fun z => by cases z
          rw [zcb, ife_t e, rs]
        rw [evss_ex vb]
        exact ⟨none, none, rfl⟩
      | some x =>
        have lj : ¬ r.length ≤ j := by have := (List.getElem?_eq_some_iff.mp hx).1; omega
        have d : (decide (12 ≤ i) || (decide (12 ≤ j) || (decide (w ≤ j) || decide (r.length ≤ j)))) = false := by simp [c1, c2, c3, lj]
        rw [d]
        dsimp only
        have tx := hr x (List.mem_of_getElem? hx)
        have g := sd_get hx
        have ev : ∀ T, evE (callN Γ (k + 1)) (.ix (.var 4) (.var 5)) (zEv fl w S.length i r (some (.int (j : Nat))) (some (.bl false))) T = .ok (.str x) T := fun T => by
          generalize callN Γ (k + 1) = F at *
          simp [g]
        have gs : (S ++ [setC' seen])[S.length]? = some (setC' seen) := by rw [get_app0]; rfl
        have isn := is_name_fn (k := k) (S := S ++ [setC' seen]) h2 tx
        have ins := in_set (x := x) gs
        rw [has_inr] at ins
        have e : evE (callN Γ (k + 1)) (.or (.var 6) (.or (.not (.call i_is_name (.cons (.ix (.var 4) (.var 5)) (.nil)))) (.one (.cmp .In (.ix (.var 4) (.var 5)) (.var 2))))) (zEv fl w S.length i r (some (.int (j : Nat))) (some (.bl false))) (S ++ [setC' seen]) = .ok (.bl (false || ((!nameB x) || hasS x seen))) (S ++ [setC' seen]) :=
          or_ev (a := false) rfl fun _ => or_ev (not_ev (by rw [ev_call, evs_cons, ev, bind_ok, evs_nil, bind_ok, bind_ok, isn])) fun _ => (show evE (callN Γ (k + 1)) (.one _) _ _ = _ from by
            show evE (callN Γ (k + 1)) (.cmp .In (.ix (.var 4) (.var 5)) (.var 2)) _ _ = _
            rw [ev_cmp, ev, bind_ok]
            show ok? ((cmpD .In (.str x) (.loc S.length) (S ++ [setC' seen])).map D.bl) _ = _
            rw [ins]
            rfl)
        rw [Bool.false_or] at e
        by_cases nb : (nameB x && !hasS x seen) = true
        · obtain ⟨n1, n2⟩ := Bool.and_eq_true_iff.mp nb
          have n2 : hasS x seen = false := by simpa using n2
          rw [n1, n2] at e
          have vb : evS (callN Γ (k + 1)) zcb (zEv fl w S.length i r (some (.int (j : Nat))) (some (.bl false))) (S ++ [setC' seen]) = .nx (zEv fl w S.length i r (some (.int (j : Nat))) (some (.bl false))) (S ++ [setC' seen]) := by
            rw [zcb, ife_f e]
            rfl
          have st : (S ++ [setC' seen]).set S.length (setC' (seen ++ [x])) = S ++ [setC' (seen ++ [x])] := by rw [set_new0]; rfl
          have ad : bmD .add (.loc S.length) [.str x] (S ++ [setC' seen]) = .ok .non (S ++ [setC' (seen ++ [x])]) := by
            show (match (S ++ [setC' seen])[S.length]? with
              | some (.set ks) => match D.key? (.str x) with
                | some k => if ks.length + 1 < 1000 then Out.ok D.non ((S ++ [setC' seen]).set S.length (.set (addK k ks))) else .bad
                | none => .bad
              | _ => .bad) = _
            rw [gs]
            show (if (seen.map Sum.inr : List Key).length + 1 < 1000 then Out.ok D.non ((S ++ [setC' seen]).set S.length (.set (addK (.inr x) (seen.map Sum.inr)))) else .bad) = _
            rw [if_pos (by rw [List.length_map]; omega), addK_new n2, st]
          have vc : evS (callN Γ (k + 1)) zcc (zEv fl w S.length i r (some (.int (j : Nat))) (some (.bl false))) (S ++ [setC' seen]) = .nx (zEv fl w S.length i r (some (.int (j : Nat))) (some (.bl false))) (S ++ [setC' (seen ++ [x])]) := by
            have bk := addK_ok gs
            have ev := ev (S ++ [setC' seen])
            rw [zcc, st_expr', ev_bm, show evE (callN Γ (k + 1)) (.var 2) (zEv fl w S.length i r (some (.int (j : Nat))) (some (.bl false))) (S ++ [setC' seen]) = .ok (.loc S.length) (S ++ [setC' seen]) from rfl, bind_ok, if_pos bk, evs_cons, ev, bind_ok, evs_nil, bind_ok, bind_ok, ad]
            rfl
          obtain ⟨p5, p6, ih⟩ := crow_fn h2 hr hi m (j + 1) (seen ++ [x]) (some (.int (j : Nat))) (some (.bl false)) (by omega) (by rw [List.length_append, List.length_singleton]; omega)
          refine ⟨p5, p6, ?_⟩
          rw [if_pos nb, evss_nx vb, evss_nx vc]
          show loopF .free _ (rangeL ((j : Int) + 1) m) _ _ = _
          rw [show ((j : Int) + 1) = ((j + 1 : Nat) : Int) from by omega]
          exact ih
        · have tr : ((!nameB x) || hasS x seen) = true := by
            revert nb
            cases nameB x <;> cases hasS x seen <;> simp
          rw [tr] at e
          have vb : evS (callN Γ (k + 1)) zcb (zEv fl w S.length i r (some (.int (j : Nat))) (some (.bl false))) (S ++ [setC' seen]) = .ex 1 (posF i j) (S ++ [setC' seen]) := by
            rw [zcb, ife_t e, rs]
          rw [if_neg nb, evss_ex vb]
          exact ⟨none, none, rfl⟩
theorem cfl_fn (h2 : Γ i_is_name = some f_is_name) (hw : 0 < w) : ∀ (rs : List (List Str)) (i : Nat) (seen : List Str) (o3 o4 o5 o6 : Option D), (∀ r ∈ rs, r.length < 100000 ∧ ∀ x ∈ r, Tx x) → w < 100000 → i ≤ 12 → seen.length ≤ 12 * i →
    ∃ o3' o4' o5' o6' s, loopF .free (fun x ρ S => (asgT (callN Γ (k + 1)) (.tup (.cons (.nm 3) (.cons (.nm 4) (.nil)))) x ρ S).bindS fun ρ' S' => evSs (callN Γ (k + 1)) (.cons zci (.nil)) ρ' S') (enumL (i : Nat) (fd rs)) [some (.tup (fd fl)), some (.int (w : Nat)), some (.loc S.length), o3, o4, o5, o6] (S ++ [setC' seen]) = (match scanF w i rs seen with
      | none => .nx [some (.tup (fd fl)), some (.int (w : Nat)), some (.loc S.length), o3', o4', o5', o6'] (S ++ [setC' s])
      | some p => .ex 1 (posF p.1 p.2) (S ++ [setC' s]))
  | [], i, seen, o3, o4, o5, o6, _, _, _, _ => ⟨o3, o4, o5, o6, seen, rfl⟩
  | r :: rs, i, seen, o3, o4, o5, o6, hr, hw2, hi, hs => by
    obtain ⟨hl, ht⟩ := hr r List.mem_cons_self
    have q0 : asgT (callN Γ (k + 1)) (.tup (.cons (.nm 3) (.cons (.nm 4) (.nil)))) (.tup [.int (i : Nat), .tup (sd r)]) [some (.tup (fd fl)), some (.int (w : Nat)), some (.loc S.length), o3, o4, o5, o6] (S ++ [setC' seen]) = .ok (zEv fl w S.length i r o5 o6) (S ++ [setC' seen]) := rfl
    obtain ⟨p5, p6, lp⟩ := crow_fn (k := k) (S := S) (fl := fl) (w := w) h2 ht hi (max w r.length) 0 seen o5 o6 (by omega) (by omega)
    have sl := scanR_len (w := w) (i := i) (r := r) (m := max w r.length) (j := 0) (seen := seen) (by omega) (by omega)
    have er := range_n (n := max w r.length) (by omega)
    have ei : evI (callN Γ (k + 1)) (.range (.cons (.bf .max2 (.cons (.var 1) (.cons (.bf .len (.cons (.var 4) (.nil))) (.nil)))) (.nil))) (zEv fl w S.length i r o5 o6) (S ++ [setC' seen]) = .ok (rangeL 0 (max w r.length), .free) (S ++ [setC' seen]) := by
      have mx : (if (r.length : Int) > (w : Int) then (r.length : Int) else (w : Int)) = ((max w r.length : Nat) : Int) := by split <;> omega
      have e3 : bfD .max2 [.int (w : Nat), .int (r.length : Nat)] (S ++ [setC' seen]) = .ok (.int (max w r.length : Nat)) (S ++ [setC' seen]) := by rw [bf_max, mx]
      generalize max w r.length = mm at *
      generalize S ++ [setC' seen] = U at *
      generalize callN Γ (k + 1) = F at *
      simp [-bf_max, sd_len, e3, er]
    have vi : evS (callN Γ (k + 1)) zci (zEv fl w S.length i r o5 o6) (S ++ [setC' seen]) = (match scanR w i r (max w r.length) 0 seen with
      | (none, s) => .nx (zEv fl w S.length i r p5 p6) (S ++ [setC' s])
      | (some j', s) => .ex 1 (posF i j') (S ++ [setC' s])) := by
      rw [zci, st_for', ei]
      exact lp
    show ∃ o3' o4' o5' o6' s, loopF .free _ (.tup [.int (i : Nat), .tup (sd r)] :: enumL ((i : Int) + 1) (fd rs)) _ _ = _
    unfold loopF
    rw [if_pos (show Src.free.ok (S ++ [setC' seen]) = true from rfl), q0, bindS_ok]
    unfold scanF
    revert vi sl
    cases scanR w i r (max w r.length) 0 seen with
    | mk o s =>
      cases o with
      | none =>
        intro sl vi
        have vi : evS (callN Γ (k + 1)) zci (zEv fl w S.length i r o5 o6) (S ++ [setC' seen]) = .nx (zEv fl w S.length i r p5 p6) (S ++ [setC' s]) := vi
        have i12 := sl.2 (by omega)
        obtain ⟨q3, q4, q5, q6, s', ih⟩ := cfl_fn h2 hw rs (i + 1) s (some (.int (i : Nat))) (some (.tup (sd r))) p5 p6 (fun r hr' => hr r (List.mem_cons_of_mem _ hr')) hw2 (by omega) (by have := sl.1; omega)
        refine ⟨q3, q4, q5, q6, s', ?_⟩
        rw [evss_nx vi]
        show loopF .free _ (enumL ((i : Int) + 1) (fd rs)) _ _ = _
        rw [show ((i : Int) + 1) = ((i + 1 : Nat) : Int) from by omega]
        exact ih
      | some j =>
        intro sl vi
        have vi : evS (callN Γ (k + 1)) zci (zEv fl w S.length i r o5 o6) (S ++ [setC' seen]) = .ex 1 (posF i j) (S ++ [setC' s]) := vi
        rw [evss_ex vi]
        exact ⟨none, none, none, none, s, rfl⟩
/-- a floor of any texts -/
structure GF (B : Nat) (fl : List (List Str)) : Prop where
  len : fl.length ≤ B
  wd : ∀ r ∈ fl, r.length ≤ B
  tx : ∀ r ∈ fl, ∀ x ∈ r, Tx x
theorem check_fn (h : Γ i_check_floor_2 = some f_check_floor_2) (h2 : Γ i_is_name = some f_is_name) {B : Nat} (hf : GF B fl) (hB : B < 100000) :
    ∃ G, callN Γ (k + 2) i_check_floor_2 [.tup (fd fl)] S = (match scan fl with
      | none => .ok .non S
      | some p => .ex 1 (posF p.1 p.2) (S ++ G)) := by
  rw [callN_eq h rfl]
  show ∃ G, gcO S (bodyO (evSs (callN Γ (k + 1)) (.cons zc1 (.cons zc2 (.cons zc3 (.cons zc4 (.nil))))) [some (.tup (fd fl)), none, none, none, none, none, none] S)) = _
  have xp := xok_pos 0 (by decide) 0 (by decide)
  have xp : xOk [.int 0, .int 0] = true := xp
  cases fl with
  | nil =>
    have v1 : evS (callN Γ (k + 1)) zc1 [some (.tup (fd [])), none, none, none, none, none, none] S = .ex 1 (posF 0 0) S := by
      generalize callN Γ (k + 1) = F at *
      simp [fd, xp, tru]
    rw [evss_ex v1]
    exact ⟨[], by rw [List.append_nil]; rfl⟩
  | cons r rs =>
    have g0 : (fd (r :: rs))[0]? = some (.tup (sd r)) := rfl
    have ln : ((fd (r :: rs)).length : Int) = (rs.length : Int) + 1 := by rw [fd_len, List.length_cons]; rfl
    have ln0 : ¬ ((rs.length : Int) + 1 = 0) := by omega
    have rl := hf.wd r List.mem_cons_self
    by_cases c : r.length = 0
    · have sc : scan (r :: rs) = some (0, 0) := by rw [scan_cons, if_pos c]
      rw [sc]
      have v1 : evS (callN Γ (k + 1)) zc1 [some (.tup (fd (r :: rs))), none, none, none, none, none, none] S = .ex 1 (posF 0 0) S := by
        generalize fd (r :: rs) = X at *
        generalize callN Γ (k + 1) = F at *
        simp [g0, ln, ln0, sd_len, c, xp, tru]
      rw [evss_ex v1]
      exact ⟨[], by rw [List.append_nil]; rfl⟩
    · have sc : scan (r :: rs) = scanF r.length 0 (r :: rs) [] := by rw [scan_cons, if_neg c]
      rw [sc]
      have v1 : evS (callN Γ (k + 1)) zc1 [some (.tup (fd (r :: rs))), none, none, none, none, none, none] S = .nx [some (.tup (fd (r :: rs))), none, none, none, none, none, none] S := by
        have c' : ¬ ((r.length : Int) = 0) := by omega
        generalize fd (r :: rs) = X at *
        generalize callN Γ (k + 1) = F at *
        simp [g0, ln, ln0, sd_len, c, xp, tru]
      have v2 : evS (callN Γ (k + 1)) zc2 [some (.tup (fd (r :: rs))), none, none, none, none, none, none] S = .nx [some (.tup (fd (r :: rs))), some (.int (r.length : Nat)), none, none, none, none, none] S := by
        generalize fd (r :: rs) = X at *
        generalize callN Γ (k + 1) = F at *
        simp [g0, sd_len]
      have v3 : evS (callN Γ (k + 1)) zc3 [some (.tup (fd (r :: rs))), some (.int (r.length : Nat)), none, none, none, none, none] S = .nx [some (.tup (fd (r :: rs))), some (.int (r.length : Nat)), some (.loc S.length), none, none, none, none] (S ++ [setC' []]) := rfl
      obtain ⟨q3, q4, q5, q6, s', lp⟩ := cfl_fn (k := k) (S := S) (fl := r :: rs) (w := r.length) h2 (Nat.pos_of_ne_zero c) (r :: rs) 0 [] none none none none (fun t ht => ⟨by have := hf.wd t ht; omega, hf.tx t ht⟩) (by omega) (by omega) (by simp)
      refine ⟨[setC' s'], ?_⟩
      have v4 : evS (callN Γ (k + 1)) zc4 [some (.tup (fd (r :: rs))), some (.int (r.length : Nat)), some (.loc S.length), none, none, none, none] (S ++ [setC' []]) = (match scanF r.length 0 (r :: rs) [] with
        | none => .nx [some (.tup (fd (r :: rs))), some (.int (r.length : Nat)), some (.loc S.length), q3, q4, q5, q6] (S ++ [setC' s'])
        | some p => .ex 1 (posF p.1 p.2) (S ++ [setC' s'])) := by
        rw [zc4, st_for', enum_tup (xs := fd (r :: rs)) rfl]
        exact lp
      rw [evss_nx v1, evss_nx v2, evss_nx v3]
      revert v4
      cases scanF r.length 0 (r :: rs) [] with
      | none =>
        intro v4
        have v4 : evS (callN Γ (k + 1)) zc4 [some (.tup (fd (r :: rs))), some (.int (r.length : Nat)), some (.loc S.length), none, none, none, none] (S ++ [setC' []]) = .nx [some (.tup (fd (r :: rs))), some (.int (r.length : Nat)), some (.loc S.length), q3, q4, q5, q6] (S ++ [setC' s']) := v4
        rw [evss_nx v4]
        show gc S .non (S ++ [setC' s']) = _
        exact gc_drop rfl
      | some p =>
        intro v4
        have v4 : evS (callN Γ (k + 1)) zc4 [some (.tup (fd (r :: rs))), some (.int (r.length : Nat)), some (.loc S.length), none, none, none, none] (S ++ [setC' []]) = .ex 1 (posF p.1 p.2) (S ++ [setC' s']) := v4
        rw [evss_ex v4]
        rfl
end
end Iv

set_option maxRecDepth 100000
namespace Iv
open PySem
/-! ### the law's own look -/
abbrev zw1 : IS := .ife (.or (.cmp .Eq (.bf .len (.cons (.var 0) (.nil))) (.con (.int 0))) (.one (.cmp .Eq (.bf .len (.cons (.ix (.var 0) (.con (.int 0))) (.nil))) (.con (.int 0))))) (.cons (.ret (.some (.tup (.cons (.con (.int 0)) (.cons (.con (.int 0)) (.nil)))))) (.nil)) (.nil)
abbrev zw2 : IS := .asg (.nm 1) (.lst (.nil))
abbrev zwE : IE := .or (.cmp .Gt (.var 2) (.con (.int 11))) (.or (.cmp .Gt (.var 3) (.con (.int 11))) (.or (.cmp .GtE (.var 3) (.bf .len (.cons (.ix (.var 0) (.con (.int 0))) (.nil)))) (.one (.cmp .GtE (.var 3) (.bf .len (.cons (.ix (.var 0) (.var 2)) (.nil)))))))
abbrev zwR : ISs := .cons (.ret (.some (.tup (.cons (.var 2) (.cons (.var 3) (.nil)))))) (.nil)
abbrev zwa : IS := .ife zwE zwR (.nil)
abbrev zwb : IS := .ife (.or (.not (.call i__law_is_name (.cons (.ix (.ix (.var 0) (.var 2)) (.var 3)) (.nil)))) (.one (.cmp .In (.ix (.ix (.var 0) (.var 2)) (.var 3)) (.var 1)))) zwR (.nil)
abbrev zwc : IS := .expr (.bm .append (.var 1) (.cons (.ix (.ix (.var 0) (.var 2)) (.var 3)) (.nil)))
abbrev zwi : IS := .for_ (.nm 3) (.range (.cons (.bf .max2 (.cons (.bf .len (.cons (.ix (.var 0) (.con (.int 0))) (.nil))) (.cons (.bf .len (.cons (.ix (.var 0) (.var 2)) (.nil))) (.nil)))) (.nil))) (.cons zwa (.cons zwb (.cons zwc (.nil))))
abbrev zw3 : IS := .for_ (.nm 2) (.range (.cons (.bf .len (.cons (.var 0) (.nil))) (.nil))) (.cons zwi (.nil))
abbrev wEv (fl : List (List Str)) (n i : Nat) (o3 : Option D) : Env := [some (.tup (fd fl)), some (.loc n), some (.int (i : Nat)), o3]
section
variable {Γ : Nat → Option FDef} {k : Nat} {S : Store} {fl : List (List Str)} {w : Nat} {r0 : List Str}
theorem wrow_fn (h2 : Γ i__law_is_name = some f__law_is_name) (h0 : fl[0]? = some r0) (hw : r0.length = w) {r : List Str} {i : Nat} (hri : fl[i]? = some r) (hr : ∀ x ∈ r, Tx x) (hi : i ≤ 12) : ∀ (m j : Nat) (seen : List Str) (o3 : Option D), j ≤ 12 → seen.length ≤ 12 * i + j →
    ∃ o3', loopF .free (fun x ρ S => (asgT (callN Γ (k + 1)) (.nm 3) x ρ S).bindS fun ρ' S' => evSs (callN Γ (k + 1)) (.cons zwa (.cons zwb (.cons zwc (.nil)))) ρ' S') (rangeL (j : Nat) m) (wEv fl S.length i o3) (S ++ [Cell.lst (sd seen)]) = (match scanR w i r m j seen with
      | (none, s) => .nx (wEv fl S.length i o3') (S ++ [Cell.lst (sd s)])
      | (some j', s) => .rt (.tup [.int (i : Nat), .int (j' : Nat)]) (S ++ [Cell.lst (sd s)]))
  | 0, j, seen, o3, _, _ => ⟨o3, rfl⟩
  | m + 1, j, seen, o3, h1, hs => by
    have q0 : asgT (callN Γ (k + 1)) (.nm 3) (.int (j : Nat)) (wEv fl S.length i o3) (S ++ [Cell.lst (sd seen)]) = .ok (wEv fl S.length i (some (.int (j : Nat)))) (S ++ [Cell.lst (sd seen)]) := rfl
    have f0 := fd_get h0
    have fi := fd_get hri
    have e0 : evE (callN Γ (k + 1)) (.bf .len (.cons (.ix (.var 0) (.con (.int 0))) (.nil))) (wEv fl S.length i (some (.int (j : Nat)))) (S ++ [Cell.lst (sd seen)]) = .ok (.int (w : Nat)) (S ++ [Cell.lst (sd seen)]) := by
      generalize callN Γ (k + 1) = F at *
      simp [f0, sd_len, hw]
    have e1 : evE (callN Γ (k + 1)) (.bf .len (.cons (.ix (.var 0) (.var 2)) (.nil))) (wEv fl S.length i (some (.int (j : Nat)))) (S ++ [Cell.lst (sd seen)]) = .ok (.int (r.length : Nat)) (S ++ [Cell.lst (sd seen)]) := by
      generalize callN Γ (k + 1) = F at *
      simp [fi, sd_len]
    have ea : evE (callN Γ (k + 1)) zwE (wEv fl S.length i (some (.int (j : Nat)))) (S ++ [Cell.lst (sd seen)]) = .ok (.bl (decide (11 < i) || (decide (11 < j) || (decide (w ≤ j) || decide (r.length ≤ j))))) (S ++ [Cell.lst (sd seen)]) :=
      or_ev (gt_ev (A := .var 2) (B := .con (.int 11)) (a := i) (b := 11) rfl rfl) fun _ => or_ev (gt_ev (A := .var 3) (B := .con (.int 11)) (a := j) (b := 11) rfl rfl) fun _ => or_ev (ge_ev (A := .var 3) (a := j) rfl e0) fun _ => one_ev (ge_ev (A := .var 3) (a := j) rfl e1)
    have rs : ∀ (T : Store), evSs (callN Γ (k + 1)) zwR (wEv fl S.length i (some (.int (j : Nat)))) T = .rt (.tup [.int (i : Nat), .int (j : Nat)]) T := fun T => by
      generalize callN Γ (k + 1) = F at *
      simp
    have rt1 : ∀ (s : IS) (q : ISs), evS (callN Γ (k + 1)) s (wEv fl S.length i (some (.int (j : Nat)))) (S ++ [Cell.lst (sd seen)]) = .rt (.tup [.int (i : Nat), .int (j : Nat)]) (S ++ [Cell.lst (sd seen)]) → evSs (callN Γ (k + 1)) (.cons s q) (wEv fl S.length i (some (.int (j : Nat)))) (S ++ [Cell.lst (sd seen)]) = .rt (.tup [.int (i : Nat), .int (j : Nat)]) (S ++ [Cell.lst (sd seen)]) := fun s q e => by
      rw [evss_cons, e]
      rfl
    show ∃ o3', loopF .free _ (.int (j : Nat) :: rangeL ((j : Int) + 1) m) _ _ = _
    unfold loopF
    rw [if_pos (show Src.free.ok (S ++ [Cell.lst (sd seen)]) = true from rfl), q0, bindS_ok]
    unfold scanR
    by_cases c : 12 ≤ i ∨ 12 ≤ j ∨ w ≤ j
    · rw [if_pos c]
      have d : (decide (11 < i) || (decide (11 < j) || (decide (w ≤ j) || decide (r.length ≤ j)))) = true := by
        rcases c with c | c | c
        · simp [show 11 < i by omega]
        · simp [show 11 < j by omega]
        · simp [c]
      rw [d] at ea
      rw [rt1 zwa _ (by rw [zwa, ife_t ea, rs])]
      exact ⟨none, rfl⟩
    · rw [if_neg c]
      have c1 : ¬ 11 < i := fun z => c (.inl (by omega))
      have c2 : ¬ 11 < j := fun z => c (.inr (.inl (by omega)))
      have c3 : ¬ w ≤ j := fun z => c (.inr (.inr z))
      cases hx : r[j]? with
      | none =>
        have lj : r.length ≤ j := List.getElem?_eq_none_iff.mp hx
        have d : (decide (11 < i) || (decide (11 < j) || (decide (w ≤ j) || decide (r.length ≤ j)))) = true := by simp [lj]
        rw [d] at ea
        rw [rt1 zwa _ (by rw [zwa, ife_t ea, rs])]
        exact ⟨none, rfl⟩
      | some x =>
        have lj : ¬ r.length ≤ j := by have := (List.getElem?_eq_some_iff.mp hx).1; omega
        have d : (decide (11 < i) || (decide (11 < j) || (decide (w ≤ j) || decide (r.length ≤ j)))) = false := by simp [c1, c2, c3, lj]
        rw [d] at ea
        have va : evS (callN Γ (k + 1)) zwa (wEv fl S.length i (some (.int (j : Nat)))) (S ++ [Cell.lst (sd seen)]) = .nx (wEv fl S.length i (some (.int (j : Nat)))) (S ++ [Cell.lst (sd seen)]) := by
          rw [zwa, ife_f ea]
          rfl
        rw [evss_nx va]
        dsimp only
        have tx := hr x (List.mem_of_getElem? hx)
        have g := sd_get hx
        have ev : ∀ T, evE (callN Γ (k + 1)) (.ix (.ix (.var 0) (.var 2)) (.var 3)) (wEv fl S.length i (some (.int (j : Nat)))) T = .ok (.str x) T := fun T => by
          generalize callN Γ (k + 1) = F at *
          simp [fi, g]
        have gs : (S ++ [Cell.lst (sd seen)])[S.length]? = some (.lst (sd seen)) := by rw [get_app0]; rfl
        have isn := lname_fn (k := k) (S := S ++ [Cell.lst (sd seen)]) h2 tx
        have ins := in_lst (x := x) gs
        have e := or_ev (F := callN Γ (k + 1)) (ρ := wEv fl S.length i (some (.int (j : Nat)))) (U := S ++ [Cell.lst (sd seen)]) (A := .not (.call i__law_is_name (.cons (.ix (.ix (.var 0) (.var 2)) (.var 3)) (.nil)))) (B := .one (.cmp .In (.ix (.ix (.var 0) (.var 2)) (.var 3)) (.var 1))) (a := !nameB x) (b := hasS x seen) (not_ev (by rw [ev_call, evs_cons, ev, bind_ok, evs_nil, bind_ok, bind_ok, isn])) fun _ => one_ev (by
            rw [ev_cmp, ev, bind_ok]
            show ok? ((cmpD .In (.str x) (.loc S.length) (S ++ [Cell.lst (sd seen)])).map D.bl) _ = _
            rw [ins]
            rfl)
        by_cases nb : (nameB x && !hasS x seen) = true
        · obtain ⟨n1, n2⟩ := Bool.and_eq_true_iff.mp nb
          have n2 : hasS x seen = false := by simpa using n2
          rw [n1, n2] at e
          have vb : evS (callN Γ (k + 1)) zwb (wEv fl S.length i (some (.int (j : Nat)))) (S ++ [Cell.lst (sd seen)]) = .nx (wEv fl S.length i (some (.int (j : Nat)))) (S ++ [Cell.lst (sd seen)]) := by
            rw [zwb, ife_f e]
            rfl
          have st : (S ++ [Cell.lst (sd seen)]).set S.length (.lst (sd seen ++ [.str x])) = S ++ [Cell.lst (sd (seen ++ [x]))] := by
            rw [set_new0]
            simp [sd]
          have ad := appD_ok (d := .str x) gs (by rw [sd_len, sizeLine_eq]; omega)
          rw [st] at ad
          have bk := appK_ok gs
          have vc : evS (callN Γ (k + 1)) zwc (wEv fl S.length i (some (.int (j : Nat)))) (S ++ [Cell.lst (sd seen)]) = .nx (wEv fl S.length i (some (.int (j : Nat)))) (S ++ [Cell.lst (sd (seen ++ [x]))]) := by
            have ev := ev (S ++ [Cell.lst (sd seen)])
            rw [zwc, st_expr', ev_bm, show evE (callN Γ (k + 1)) (.var 1) (wEv fl S.length i (some (.int (j : Nat)))) (S ++ [Cell.lst (sd seen)]) = .ok (.loc S.length) (S ++ [Cell.lst (sd seen)]) from rfl, bind_ok, if_pos bk, evs_cons, ev, bind_ok, evs_nil, bind_ok, bind_ok, ad]
            rfl
          obtain ⟨p3, ih⟩ := wrow_fn h2 h0 hw hri hr hi m (j + 1) (seen ++ [x]) (some (.int (j : Nat))) (by omega) (by rw [List.length_append, List.length_singleton]; omega)
          refine ⟨p3, ?_⟩
          rw [if_pos nb, evss_nx vb, evss_nx vc]
          show loopF .free _ (rangeL ((j : Int) + 1) m) _ _ = _
          rw [show ((j : Int) + 1) = ((j + 1 : Nat) : Int) from by omega]
          exact ih
        · have tr : ((!nameB x) || hasS x seen) = true := by
            revert nb
            cases nameB x <;> cases hasS x seen <;> simp
          rw [tr] at e
          rw [if_neg nb, rt1 zwb _ (by rw [zwb, ife_t e, rs])]
          exact ⟨none, rfl⟩
theorem wfl_fn (h2 : Γ i__law_is_name = some f__law_is_name) (h0 : fl[0]? = some r0) (hw : r0.length = w) (hw0 : 0 < w) (hfl : ∀ r ∈ fl, r.length < 100000 ∧ ∀ x ∈ r, Tx x) : ∀ (rs : List (List Str)) (i : Nat) (seen : List Str) (o2 o3 : Option D), (∀ n, rs[n]? = fl[i + n]?) → i ≤ 12 → seen.length ≤ 12 * i →
    ∃ o2' o3' s, loopF .free (fun x ρ S => (asgT (callN Γ (k + 1)) (.nm 2) x ρ S).bindS fun ρ' S' => evSs (callN Γ (k + 1)) (.cons zwi (.nil)) ρ' S') (rangeL (i : Nat) rs.length) [some (.tup (fd fl)), some (.loc S.length), o2, o3] (S ++ [Cell.lst (sd seen)]) = (match scanF w i rs seen with
      | none => .nx [some (.tup (fd fl)), some (.loc S.length), o2', o3'] (S ++ [Cell.lst (sd s)])
      | some p => .rt (.tup [.int (p.1 : Nat), .int (p.2 : Nat)]) (S ++ [Cell.lst (sd s)]))
  | [], i, seen, o2, o3, _, _, _ => ⟨o2, o3, seen, rfl⟩
  | r :: rs, i, seen, o2, o3, hd, hi, hs => by
    have hri : fl[i]? = some r := by
      have := hd 0
      rw [Nat.add_zero] at this
      rw [← this]
      rfl
    obtain ⟨hl, ht⟩ := hfl r (List.mem_of_getElem? hri)
    have wl := (hfl r0 (List.mem_of_getElem? h0)).1
    have q0 : asgT (callN Γ (k + 1)) (.nm 2) (.int (i : Nat)) [some (.tup (fd fl)), some (.loc S.length), o2, o3] (S ++ [Cell.lst (sd seen)]) = .ok (wEv fl S.length i o3) (S ++ [Cell.lst (sd seen)]) := rfl
    obtain ⟨p3, lp⟩ := wrow_fn (k := k) (S := S) (fl := fl) h2 h0 hw hri ht hi (max w r.length) 0 seen o3 (by omega) (by omega)
    have sl := scanR_len (w := w) (i := i) (r := r) (m := max w r.length) (j := 0) (seen := seen) (by omega) (by omega)
    have er := range_n (n := max w r.length) (by omega)
    have f0 := fd_get h0
    have fi := fd_get hri
    have ei : evI (callN Γ (k + 1)) (.range (.cons (.bf .max2 (.cons (.bf .len (.cons (.ix (.var 0) (.con (.int 0))) (.nil))) (.cons (.bf .len (.cons (.ix (.var 0) (.var 2)) (.nil))) (.nil)))) (.nil))) (wEv fl S.length i o3) (S ++ [Cell.lst (sd seen)]) = .ok (rangeL 0 (max w r.length), .free) (S ++ [Cell.lst (sd seen)]) := by
      have mx : (if (r.length : Int) > (w : Int) then (r.length : Int) else (w : Int)) = ((max w r.length : Nat) : Int) := by split <;> omega
      have e3 : bfD .max2 [.int (w : Nat), .int (r.length : Nat)] (S ++ [Cell.lst (sd seen)]) = .ok (.int (max w r.length : Nat)) (S ++ [Cell.lst (sd seen)]) := by rw [bf_max, mx]
      generalize max w r.length = mm at *
      generalize S ++ [Cell.lst (sd seen)] = U at *
      generalize callN Γ (k + 1) = F at *
      simp [-bf_max, f0, fi, sd_len, hw, e3, er]
    have vi : evS (callN Γ (k + 1)) zwi (wEv fl S.length i o3) (S ++ [Cell.lst (sd seen)]) = (match scanR w i r (max w r.length) 0 seen with
      | (none, s) => .nx (wEv fl S.length i p3) (S ++ [Cell.lst (sd s)])
      | (some j', s) => .rt (.tup [.int (i : Nat), .int (j' : Nat)]) (S ++ [Cell.lst (sd s)])) := by
      rw [zwi, st_for', ei]
      exact lp
    show ∃ o2' o3' s, loopF .free _ (.int (i : Nat) :: rangeL ((i : Int) + 1) rs.length) _ _ = _
    unfold loopF
    rw [if_pos (show Src.free.ok (S ++ [Cell.lst (sd seen)]) = true from rfl), q0, bindS_ok]
    unfold scanF
    revert vi sl
    cases scanR w i r (max w r.length) 0 seen with
    | mk o s =>
      cases o with
      | none =>
        intro sl vi
        have vi : evS (callN Γ (k + 1)) zwi (wEv fl S.length i o3) (S ++ [Cell.lst (sd seen)]) = .nx (wEv fl S.length i p3) (S ++ [Cell.lst (sd s)]) := vi
        have i12 := sl.2 (by omega)
        obtain ⟨q2, q3, s', ih⟩ := wfl_fn h2 h0 hw hw0 hfl rs (i + 1) s (some (.int (i : Nat))) p3 (fun n => by
          have := hd (n + 1)
          rw [List.getElem?_cons_succ] at this
          rw [this, show i + (n + 1) = i + 1 + n from by omega]) (by omega) (by have := sl.1; omega)
        refine ⟨q2, q3, s', ?_⟩
        rw [evss_nx vi]
        show loopF .free _ (rangeL ((i : Int) + 1) rs.length) _ _ = _
        rw [show ((i : Int) + 1) = ((i + 1 : Nat) : Int) from by omega]
        exact ih
      | some j =>
        intro sl vi
        have vi : evS (callN Γ (k + 1)) zwi (wEv fl S.length i o3) (S ++ [Cell.lst (sd seen)]) = .rt (.tup [.int (i : Nat), .int (j : Nat)]) (S ++ [Cell.lst (sd s)]) := vi
        rw [evss_cons, vi]
        exact ⟨none, none, s, rfl⟩
def posD : Option (Nat × Nat) → D
  | none => .non
  | some p => .tup [.int (p.1 : Nat), .int (p.2 : Nat)]
theorem posD_cl (n : Nat) (o : Option (Nat × Nat)) : (posD o).cl n = true := by cases o <;> rfl
theorem evss_rt {F : Fns} {s : IS} {q : ISs} {ρ : Env} {S S' : Store} {d : D} (h : evS F s ρ S = .rt d S') : evSs F (.cons s q) ρ S = .rt d S' := by
  rw [evss_cons, h]
  rfl
theorem wrong_fn (h : Γ i__law_wrong_2 = some f__law_wrong_2) (h2 : Γ i__law_is_name = some f__law_is_name) {B : Nat} (hf : GF B fl) (hB : B < 100000) : callN Γ (k + 2) i__law_wrong_2 [.tup (fd fl)] S = .ok (posD (scan fl)) S := by
  rw [callN_eq h rfl]
  show gcO S (bodyO (evSs (callN Γ (k + 1)) (.cons zw1 (.cons zw2 (.cons zw3 (.cons (.ret (.some (.con .non))) (.nil))))) [some (.tup (fd fl)), none, none, none] S)) = _
  cases fl with
  | nil =>
    have v1 : evS (callN Γ (k + 1)) zw1 [some (.tup (fd [])), none, none, none] S = .rt (.tup [.int 0, .int 0]) S := by
      generalize callN Γ (k + 1) = F at *
      simp [fd, tru]
    rw [evss_rt v1]
    show gc S (.tup [.int 0, .int 0]) S = _
    exact gc_same rfl
  | cons r rs =>
    have g0 : (fd (r :: rs))[0]? = some (.tup (sd r)) := rfl
    have ln : ((fd (r :: rs)).length : Int) = (rs.length : Int) + 1 := by rw [fd_len, List.length_cons]; rfl
    have ln0 : ¬ ((rs.length : Int) + 1 = 0) := by omega
    have rl := hf.wd r List.mem_cons_self
    by_cases c : r.length = 0
    · have sc : scan (r :: rs) = some (0, 0) := by rw [scan_cons, if_pos c]
      rw [sc]
      have v1 : evS (callN Γ (k + 1)) zw1 [some (.tup (fd (r :: rs))), none, none, none] S = .rt (.tup [.int 0, .int 0]) S := by
        generalize fd (r :: rs) = X at *
        generalize callN Γ (k + 1) = F at *
        simp [g0, ln, ln0, sd_len, c, tru]
      rw [evss_rt v1]
      show gc S (.tup [.int 0, .int 0]) S = _
      exact gc_same rfl
    · have sc : scan (r :: rs) = scanF r.length 0 (r :: rs) [] := by rw [scan_cons, if_neg c]
      rw [sc]
      have v1 : evS (callN Γ (k + 1)) zw1 [some (.tup (fd (r :: rs))), none, none, none] S = .nx [some (.tup (fd (r :: rs))), none, none, none] S := by
        generalize fd (r :: rs) = X at *
        generalize callN Γ (k + 1) = F at *
        simp [g0, ln, ln0, sd_len, c, tru]
      have v2 : evS (callN Γ (k + 1)) zw2 [some (.tup (fd (r :: rs))), none, none, none] S = .nx [some (.tup (fd (r :: rs))), some (.loc S.length), none, none] (S ++ [Cell.lst (sd [])]) := rfl
      have hl := hf.len
      have er := range_n (n := (r :: rs).length) (by omega)
      obtain ⟨q2, q3, s', lp⟩ := wfl_fn (k := k) (S := S) (fl := r :: rs) (r0 := r) (w := r.length) h2 rfl rfl (Nat.pos_of_ne_zero c) (fun t ht => ⟨by have := hf.wd t ht; omega, hf.tx t ht⟩) (r :: rs) 0 [] none none (fun n => by rw [Nat.zero_add]) (by omega) (by simp)
      have v3 : evS (callN Γ (k + 1)) zw3 [some (.tup (fd (r :: rs))), some (.loc S.length), none, none] (S ++ [Cell.lst (sd [])]) = (match scanF r.length 0 (r :: rs) [] with
        | none => .nx [some (.tup (fd (r :: rs))), some (.loc S.length), q2, q3] (S ++ [Cell.lst (sd s')])
        | some p => .rt (.tup [.int (p.1 : Nat), .int (p.2 : Nat)]) (S ++ [Cell.lst (sd s')])) := by
        have ei : evI (callN Γ (k + 1)) (.range (.cons (.bf .len (.cons (.var 0) (.nil))) (.nil))) [some (.tup (fd (r :: rs))), some (.loc S.length), none, none] (S ++ [Cell.lst (sd [])]) = .ok (rangeL 0 (r :: rs).length, .free) (S ++ [Cell.lst (sd [])]) := by
          have ln : (fd (r :: rs)).length = (r :: rs).length := fd_len _
          generalize (r :: rs).length = L at *
          generalize fd (r :: rs) = X at *
          generalize S ++ [Cell.lst (sd [])] = U at *
          generalize callN Γ (k + 1) = F at *
          simp [ln, er]
        rw [zw3, st_for', ei]
        exact lp
      rw [evss_nx v1, evss_nx v2]
      revert v3
      cases scanF r.length 0 (r :: rs) [] with
      | none =>
        intro v3
        have v3 : evS (callN Γ (k + 1)) zw3 [some (.tup (fd (r :: rs))), some (.loc S.length), none, none] (S ++ [Cell.lst (sd [])]) = .nx [some (.tup (fd (r :: rs))), some (.loc S.length), q2, q3] (S ++ [Cell.lst (sd s')]) := v3
        rw [evss_nx v3]
        show gc S .non (S ++ [Cell.lst (sd s')]) = _
        exact gc_drop rfl
      | some p =>
        intro v3
        have v3 : evS (callN Γ (k + 1)) zw3 [some (.tup (fd (r :: rs))), some (.loc S.length), none, none] (S ++ [Cell.lst (sd [])]) = .rt (.tup [.int (p.1 : Nat), .int (p.2 : Nat)]) (S ++ [Cell.lst (sd s')]) := v3
        rw [evss_rt v3]
        show gc S (.tup [.int (p.1 : Nat), .int (p.2 : Nat)]) (S ++ [Cell.lst (sd s')]) = _
        exact gc_drop rfl
/-! ### both alike -/
theorem repr_non {S : Store} : bfD .repr [.non] S = .ok (.str PyData.none.shown) S := repr_of rfl (by decide +kernel)
theorem pair_ok13 : ∀ i : Nat, i < 13 → ∀ j : Nat, j < 13 → reprOk (.tuple [.int (i : Nat), .int (j : Nat)]) = true := by decide +kernel
theorem repr_pos {p : Nat × Nat} (h : p.1 < 13 ∧ p.2 < 13) {S : Store} : bfD .repr [.tup [.int (p.1 : Nat), .int (p.2 : Nat)]] S = .ok (.str (PyData.tuple [.int (p.1 : Nat), .int (p.2 : Nat)]).shown) S := repr_of rfl (pair_ok13 _ h.1 _ h.2)
abbrev zrS : SUs := .cons (.asg 2 (.at_ (.con (.int (-1))))) (.cons (.ife (.and (.isi 1) (.not (.ism [8, 2, 9]))) (.cons (.asg 2 (.tup [.fld "row", .fld "column"])) (.nil))) (.nil))
abbrev zr3 : IS := .try_ (.expr (.call i_check_floor_2 (.cons (.var 0) (.nil)))) (some 3) 0 [1, 2] zrS
theorem zrS_1 {a b d : D} {i j : Nat} {U : Store} : evSUs (some 3) 1 (posF i j) zrS [some a, some b, some d, none] U = .nx [some a, some b, some (.tup [.int (i : Nat), .int (j : Nat)]), none] U := by
  rfl
theorem right_fn (h : Γ i__law_right = some f__law_right) (h1 : Γ i__law_wrong_2 = some f__law_wrong_2) (h2 : Γ i__law_is_name = some f__law_is_name) (h3 : Γ i_check_floor_2 = some f_check_floor_2) (h4 : Γ i_is_name = some f_is_name) {B : Nat} (hf : GF B fl) (hB : B < 100000) :
    callN Γ (k + 3) i__law_right [.tup (fd fl)] S = .ok (.bl true) S := by
  rw [callN_eq h rfl]
  have wr := wrong_fn (k := k) (S := S) h1 h2 hf hB
  obtain ⟨G, ck⟩ := check_fn (k := k) (S := S) h3 h4 hf hB
  have v1 : evS (callN Γ (k + 2)) (.asg (.nm 1) (.call i__law_wrong_2 (.cons (.var 0) (.nil)))) [some (.tup (fd fl)), none, none, none] S = .nx [some (.tup (fd fl)), some (posD (scan fl)), none, none] S := by
    generalize callN Γ (k + 2) = F at *
    simp [wr]
  have v2 : evS (callN Γ (k + 2)) (.asg (.nm 2) (.con .non)) [some (.tup (fd fl)), some (posD (scan fl)), none, none] S = .nx [some (.tup (fd fl)), some (posD (scan fl)), some .non, none] S := rfl
  show gcO S (bodyO (evSs (callN Γ (k + 2)) (.cons (.asg (.nm 1) (.call i__law_wrong_2 (.cons (.var 0) (.nil)))) (.cons (.asg (.nm 2) (.con .non)) (.cons zr3 (.cons (.ret (.some (.cmp .Eq (.bf .repr (.cons (.var 2) (.nil))) (.bf .repr (.cons (.var 1) (.nil)))))) (.nil))))) [some (.tup (fd fl)), none, none, none] S)) = _
  rw [evss_nx v1, evss_nx v2]
  cases hs : scan fl with
  | none =>
    rw [hs] at ck
    have ib : evIB (callN Γ (k + 2)) (.expr (.call i_check_floor_2 (.cons (.var 0) (.nil)))) [some (.tup (fd fl)), some (posD none), some .non, none] S = .nx [some (.tup (fd fl)), some (posD none), some .non, none] S := by
      show ((callN Γ (k + 2) i_check_floor_2 [.tup (fd fl)] S).bindS _) = _
      rw [ck]
      rfl
    have v3 : evS (callN Γ (k + 2)) zr3 [some (.tup (fd fl)), some (posD none), some .non, none] S = .nx [some (.tup (fd fl)), some (posD none), some .non, none] S := by
      show tryO (some 3) 0 [1, 2] zrS _ (evIB (callN Γ (k + 2)) _ _ S) = _
      rw [ib]
      rfl
    rw [evss_nx v3]
    have rp := repr_non (S := S)
    have gd : gc S (.bl true) S = .ok (.bl true) S := gc_same rfl
    have e0 : posD none = .non := rfl
    rw [e0]
    generalize callN Γ (k + 2) = F at *
    simp [rp, gd]
  | some p =>
    rw [hs] at ck
    have ck : callN Γ (k + 2) i_check_floor_2 [.tup (fd fl)] S = .ex 1 (posF p.1 p.2) (S ++ G) := ck
    have ib : evIB (callN Γ (k + 2)) (.expr (.call i_check_floor_2 (.cons (.var 0) (.nil)))) [some (.tup (fd fl)), some (posD (some p)), some .non, none] S = .ex 1 (posF p.1 p.2) (S ++ G) := by
      show ((callN Γ (k + 2) i_check_floor_2 [.tup (fd fl)] S).bindS _) = _
      rw [ck]
      rfl
    have v3 : evS (callN Γ (k + 2)) zr3 [some (.tup (fd fl)), some (posD (some p)), some .non, none] S = .nx [some (.tup (fd fl)), some (posD (some p)), some (.tup [.int (p.1 : Nat), .int (p.2 : Nat)]), none] (S ++ G) := by
      show tryO (some 3) 0 [1, 2] zrS [some (.tup (fd fl)), some (posD (some p)), some .non, none] (evIB (callN Γ (k + 2)) _ _ S) = _
      rw [ib]
      show (match evSUs (some 3) 1 (posF p.1 p.2) zrS [some (.tup (fd fl)), some (posD (some p)), some .non, none] (S ++ G) with
        | .nx ρ' S' => if freeI (some 3) ρ' then OutS.nx ρ' S' else .bad
        | _ => .bad) = _
      rw [zrS_1]
      rfl
    rw [evss_nx v3]
    have rp := repr_pos (scan_lt hs) (S := S ++ G)
    have gd : gc S (.bl true) (S ++ G) = .ok (.bl true) S := gc_drop rfl
    have e0 : posD (some p) = .tup [.int (p.1 : Nat), .int (p.2 : Nat)] := rfl
    rw [e0]
    generalize (PyData.tuple [.int (p.1 : Nat), .int (p.2 : Nat)]).shown = T at *
    generalize S ++ G = V at *
    generalize callN Γ (k + 2) = F at *
    simp [rp, gd]
abbrev zu2 : IS := .try_ (.expr (.call i_locate_2 (.cons (.var 0) (.cons (.var 1) (.nil))))) (some 3) 2 [1, 2] (.cons (.asg 2 (.at_ (.fld "name"))) (.nil))
theorem zuS_2 {a b d y : D} {U : Store} : evSUs (some 3) 2 [("name", y)] (.cons (.asg 2 (.at_ (.fld "name"))) (.nil)) [some a, some b, some d, none] U = .nx [some a, some b, some y, none] U := by
  rfl
theorem unk_fn (h : Γ i__law_unknown = some f__law_unknown) (h1 : Γ i_locate_2 = some f_locate_2) {x : Str} (hx : x ∉ fl.flatten) (hl : x.length ≤ 5000) : callN Γ (k + 2) i__law_unknown [.tup (fd fl), .str x] S = .ok (.str x) S := by
  rw [callN_eq h rfl]
  have lo := locate2_no (k := k) (S := S) h1 hx hl
  have v1 : evS (callN Γ (k + 1)) (.asg (.nm 2) (.con .non)) [some (.tup (fd fl)), some (.str x), none, none] S = .nx [some (.tup (fd fl)), some (.str x), some .non, none] S := rfl
  have ib : evIB (callN Γ (k + 1)) (.expr (.call i_locate_2 (.cons (.var 0) (.cons (.var 1) (.nil))))) [some (.tup (fd fl)), some (.str x), some .non, none] S = .ex 2 [("name", .str x)] S := by
    show ((callN Γ (k + 1) i_locate_2 [.tup (fd fl), .str x] S).bindS _) = _
    rw [lo]
    rfl
  have v2 : evS (callN Γ (k + 1)) zu2 [some (.tup (fd fl)), some (.str x), some .non, none] S = .nx [some (.tup (fd fl)), some (.str x), some (.str x), none] S := by
    show tryO (some 3) 2 [1, 2] (.cons (.asg 2 (.at_ (.fld "name"))) (.nil)) [some (.tup (fd fl)), some (.str x), some .non, none] (evIB (callN Γ (k + 1)) _ _ S) = _
    rw [ib]
    show (match evSUs (some 3) 2 [("name", .str x)] (.cons (.asg 2 (.at_ (.fld "name"))) (.nil)) [some (.tup (fd fl)), some (.str x), some .non, none] S with
        | .nx ρ' S' => if freeI (some 3) ρ' then OutS.nx ρ' S' else .bad
        | _ => .bad) = _
    rw [zuS_2]
    rfl
  show gcO S (bodyO (evSs (callN Γ (k + 1)) (.cons (.asg (.nm 2) (.con .non)) (.cons zu2 (.cons (.ret (.some (.var 2))) (.nil)))) [some (.tup (fd fl)), some (.str x), none, none] S)) = _
  rw [evss_nx v1, evss_nx v2]
  show gc S (.str x) S = _
  exact gc_same rfl
end
end Iv

set_option maxRecDepth 100000
namespace Iv
open PySem
theorem pos_uniq : ∀ {fl : List (List Str)}, fl.flatten.Nodup → ∀ {i i' j j' : Nat} {r r' : List Str} {x : Str}, fl[i]? = some r → r[j]? = some x → fl[i']? = some r' → r'[j']? = some x → i = i' ∧ j = j'
  | [], _, i, i', j, j', r, r', x, h, _, _, _ => by simp at h
  | a :: fl, nd, i, i', j, j', r, r', x, h1, h2, h3, h4 => by
    rw [List.flatten_cons] at nd
    obtain ⟨n1, n2, n3⟩ := List.nodup_append.mp nd
    cases i with
    | zero =>
      have e1 : a = r := by simpa using h1
      subst e1
      cases i' with
      | zero =>
        have e2 : a = r' := by simpa using h3
        subst e2
        refine ⟨rfl, ?_⟩
        exact (List.getElem?_inj (List.getElem?_eq_some_iff.mp h2).1 n1).mp (h2.trans h4.symm)
      | succ i' =>
        have h3 : fl[i']? = some r' := by simpa using h3
        exact absurd rfl (n3 x (List.mem_of_getElem? h2) x (List.mem_flatten.mpr ⟨r', List.mem_of_getElem? h3, List.mem_of_getElem? h4⟩))
    | succ i =>
      have h1 : fl[i]? = some r := by simpa using h1
      cases i' with
      | zero =>
        have e2 : a = r' := by simpa using h3
        subst e2
        exact absurd rfl (n3 x (List.mem_of_getElem? h4) x (List.mem_flatten.mpr ⟨r, List.mem_of_getElem? h1, List.mem_of_getElem? h2⟩))
      | succ i' =>
        have h3 : fl[i']? = some r' := by simpa using h3
        obtain ⟨p, q⟩ := pos_uniq n2 h1 h2 h3 h4
        exact ⟨by rw [p], q⟩
theorem fl_pos {R C : Nat} {fl : List (List Str)} (hf : FlOk R C fl) {x : Str} (hx : x ∈ fl.flatten) : ∃ (i j : Nat) (r : List Str), fl[i]? = some r ∧ r[j]? = some x ∧ i < R ∧ j < C := by
  obtain ⟨r, hr, hx⟩ := List.mem_flatten.mp hx
  obtain ⟨i, hi⟩ := List.getElem?_of_mem hr
  obtain ⟨j, hj⟩ := List.getElem?_of_mem hx
  have h1 := (List.getElem?_eq_some_iff.mp hi).1
  have h2 := (List.getElem?_eq_some_iff.mp hj).1
  rw [hf.len] at h1
  rw [hf.wd r hr] at h2
  exact ⟨i, j, r, hi, hj, h1, h2⟩
theorem rngM : ∀ {n : Nat} {lo : Nat}, rangeL (lo : Int) n = (List.range' lo n).map fun i : Nat => D.int i
  | 0, _ => rfl
  | n + 1, lo => by
    show D.int lo :: rangeL ((lo : Int) + 1) n = _
    have := rngM (n := n) (lo := lo + 1)
    rw [show ((lo + 1 : Nat) : Int) = (lo : Int) + 1 from by omega] at this
    rw [this]
    rfl
theorem rng0 {n : Nat} : rangeL 0 n = (List.range n).map fun i : Nat => D.int i := by
  rw [List.range_eq_range']
  exact rngM (lo := 0)
theorem one_of {α : Type} {g : Nat → Option α} {i : Nat} {v : α} : ∀ {n : Nat}, (∀ a, a < n → g a = if a = i then some v else none) → (List.range n).filterMap g = if i < n then [v] else []
  | 0, _ => by simp
  | n + 1, h => by
    rw [List.range_succ, List.filterMap_append, one_of fun a ha => h a (by omega)]
    have hn := h n (by omega)
    by_cases e : n = i
    · rw [if_pos e] at hn
      rw [if_neg (by omega), if_pos (by omega)]
      simp [hn]
    · rw [if_neg e] at hn
      by_cases z : i < n
      · rw [if_pos z, if_pos (by omega)]
        simp [hn]
      · rw [if_neg z, if_neg (by omega)]
        simp [hn]
end Iv

set_option maxRecDepth 100000
namespace Iv
open PySem
/-! ### stores by what stands in them -/
theorem ne_src {U : Store} {s n m : Nat} {c : Cell} {l : List Str} (hs : U[s]? = some c) (hc : SrcC c m) (hn : U[n]? = some (.lst (sd l))) : s ≠ n := by
  intro e
  subst e
  obtain ⟨x, y, z, rfl, _⟩ := hc
  rw [hs] at hn
  have h : [D.int x, D.int y, D.int z] = sd l := Cell.lst.inj (Option.some.inj hn)
  cases l with
  | nil => cases h
  | cons a l =>
    have h : D.int x :: [D.int y, D.int z] = D.str a :: sd l := h
    have := (List.cons.inj h).1
    cases this
theorem drw {Γ : Nat → Option FDef} {k : Nat} (h4 : Γ i__law_draw = some f__law_draw) {U : Store} {s m : Nat} {c : Cell} (hs : U[s]? = some c) (hc : SrcC c m) (hm : m < 10 ^ 13) {b : Nat} (hb : 0 < b) (hb2 : b < 10 ^ 20) :
    ∃ r c', r < b ∧ SrcC c' (m + 1) ∧ callN Γ (k + 1) i__law_draw [.loc s, .int b] U = .ok (.int (r : Nat)) (U.set s c') ∧ (U.set s c')[s]? = some c' ∧ (∀ (n : Nat) (l : List Str), U[n]? = some (Cell.lst (sd l)) → (U.set s c')[n]? = some (.lst (sd l))) ∧ (U.set s c').length = U.length := by
  obtain ⟨r, c', h1, h2, h3⟩ := draw_ok (k := k) h4 hs hc (by omega) (b := b) hb (by omega)
  refine ⟨r, c', h1, h2, h3, set_get (List.getElem?_eq_some_iff.mp hs).1, fun n l hn => ?_, List.length_set⟩
  rw [set_get' (ne_src hs hc hn)]
  exact hn
theorem rep_flat {α β : Type} (f : α → β) (k : Nat) (l : List α) : (List.replicate k (l.map f)).flatten = ((List.replicate k l).flatten).map f := by
  rw [List.map_flatten, List.map_replicate]
theorem mul_loc {S : Store} {m k : Nat} {l : List Str} (h : S[m]? = some (.lst (sd l))) (hk : k ≤ 100) (hl : l.length < 10000) : opD .Mult (.loc m) (.int (k : Nat)) S = .ok (.loc S.length) (S ++ [Cell.lst (sd (List.replicate k l).flatten)]) := by
  have e : (List.replicate k (sd l)).flatten = sd (List.replicate k l).flatten := rep_flat D.str k l
  have z : 0 ≤ (k : Int) ∧ (k : Int) < 2 ^ 62 ∧ (sd l).length * (k : Int).toNat ≤ sizeLine := by
    refine ⟨by omega, by omega, ?_⟩
    rw [sd_len, Int.toNat_natCast, sizeLine_eq]
    exact Nat.le_trans (Nat.mul_le_mul (Nat.le_of_lt hl) hk) (by decide)
  show (match Operator.Mult, S[m]? with
    | .Mult, some (.lst xs) => if 0 ≤ (k : Int) ∧ (k : Int) < 2 ^ 62 ∧ xs.length * (k : Int).toNat ≤ sizeLine then newC (.lst (List.replicate (k : Int).toNat xs).flatten) S else .bad
    | _, _ => .bad) = _
  rw [h]
  show (if 0 ≤ (k : Int) ∧ (k : Int) < 2 ^ 62 ∧ (sd l).length * (k : Int).toNat ≤ sizeLine then newC (.lst (List.replicate (k : Int).toNat (sd l)).flatten) S else .bad) = _
  rw [if_pos z, Int.toNat_natCast, e]
  rfl
theorem ne_nil {c : List Str} {S : Store} {n m : Nat} (h : S[n]? = some (.lst (sd c))) (h2 : S[m]? = some (.lst [])) : cmpD .NotEq (.loc n) (.loc m) S = some (!decide (c = [])) := by
  show (cmpD .Eq (.loc n) (.loc m) S).map not = _
  rw [eq_nil h h2]
  rfl
/-- lists of texts put together row by row -/
theorem cat2 {F : Fns} {U : Store} {fl : List (List Str)} {En : Nat → Option D → Env} {a cv : Nat} {LC : IE} {p : Str → Bool} {itx : II} {n0 : Nat} {o0 : Option D} {a0 : List Str}
    (hit : evI F itx (En n0 o0) U = .ok (fd fl, .free) U) (h0 : U[n0]? = some (.lst (sd a0))) (hlen : a0.length + fl.flatten.length < 100000)
    (h1 : ∀ j o x T, asgT F (.nm cv) x (En j o) T = .ok (En j (some x)) T) (h2 : ∀ j o T, evE F (.var a) (En j o) T = .ok (.loc j) T) (h3 : ∀ j j' o T, asgT F (.nm a) (.loc j') (En j o) T = .ok (En j' o) T)
    (hL : ∀ j r G, r ∈ fl → evE F LC (En j (some (.tup (sd r)))) (U ++ G) = .ok (.loc (U ++ G).length) (U ++ G ++ [Cell.lst (sd (r.filter p))])) :
    ∃ n o G, (U ++ G)[n]? = some (.lst (sd (a0 ++ fl.flatten.filter p))) ∧ evS F (.for_ (.nm cv) itx (.cons (.asg (.nm a) (.bin .Add (.var a) LC)) .nil)) (En n0 o0) U = .nx (En n o) (U ++ G) := by
  have key := loopF_all (src := .free) (f := fun x ρ S => (asgT F (.nm cv) x ρ S).bindS (fun ρ' S' => evSs F (.cons (.asg (.nm a) (.bin .Add (.var a) LC)) .nil) ρ' S')) (xs := fd fl) (ρ := En n0 o0) (S := U)
    (fun i ρ S' => ∃ n o G, ρ = En n o ∧ S' = U ++ G ∧ (U ++ G)[n]? = some (.lst (sd (a0 ++ (fl.take i).flatten.filter p)))) ⟨n0, o0, [], rfl, by simp, by simpa using h0⟩
    (fun i x ρ S' ⟨n, o, G, e1, e2, e3⟩ hi => ?_) (fun _ _ _ => rfl)
  · obtain ⟨ρ', S', e0, n, o, G, e1, e2, e3⟩ := key
    subst e1 e2
    rw [fd_len, List.take_of_length_le (Nat.le_refl _)] at e3
    refine ⟨n, o, G, e3, ?_⟩
    rw [st_for', hit]
    exact e0
  · subst e1 e2
    obtain ⟨r, hr, rfl⟩ := fd_get' hi
    have lc := hL n r G (List.mem_of_getElem? hr)
    have gj := get_old (T := [Cell.lst (sd (r.filter p))]) e3
    have tk : fl.take (i + 1) = fl.take i ++ [r] := by rw [List.take_succ, hr]; rfl
    have bound : ((fl.take (i + 1)).flatten).length ≤ fl.flatten.length := by
      conv => rhs; rw [← List.take_append_drop (i + 1) fl, List.flatten_append, List.length_append]
      exact Nat.le_add_right _ _
    rw [tk, List.flatten_append, List.length_append] at bound
    have ad := add_loc (S := U ++ G ++ [.lst (sd (r.filter p))]) (m := n) (n := (U ++ G).length) gj (by rw [get_app0]; rfl) (by
      rw [sd_len, sd_len, List.length_append]
      have h1 := List.length_filter_le p (fl.take i).flatten
      have h2 := List.length_filter_le p r
      simp only [List.flatten_cons, List.flatten_nil, List.append_nil] at bound
      omega)
    have e6 : sd (a0 ++ (fl.take i).flatten.filter p) ++ sd (r.filter p) = sd (a0 ++ (fl.take (i + 1)).flatten.filter p) := by
      rw [tk, List.flatten_append, List.filter_append]
      simp [sd]
    rw [e6] at ad
    refine ⟨rfl, En (U ++ G ++ [Cell.lst (sd (r.filter p))]).length (some (.tup (sd r))), U ++ (G ++ ([Cell.lst (sd (r.filter p))] ++ [Cell.lst (sd (a0 ++ (fl.take (i + 1)).flatten.filter p))])), .inl ?_, _, some (.tup (sd r)), _, rfl, rfl, ?_⟩
    · rw [h1, bindS_ok, ← List.append_assoc, ← List.append_assoc]
      have q : evS F (.asg (.nm a) (.bin .Add (.var a) LC)) (En n (some (.tup (sd r)))) (U ++ G) = .nx (En (U ++ G ++ [Cell.lst (sd (r.filter p))]).length (some (.tup (sd r)))) (U ++ G ++ [Cell.lst (sd (r.filter p))] ++ [Cell.lst (sd (a0 ++ (fl.take (i + 1)).flatten.filter p))]) := by
        show (evE F (.bin .Add (.var a) LC) _ _).bindS _ = _
        rw [ev_bin, h2, bind_ok, lc, bind_ok, ad, bindS_ok, h3, bindS_ok]
      rw [evss_nx q]
      rfl
    · rw [← List.append_assoc, ← List.append_assoc, get_app0]
      rfl
/-! ### drawn names -/
abbrev gEv (d0 : D) (o1 : Option D) (s : Nat) (fl : List (List Str)) (w : Nat) (o5 o6 o7 o8 o9 o10 o11 o12 o13 o14 o15 o16 : Option D) : Env := [some d0, o1, some (.loc s), some (.tup (fd fl)), some (.loc w), o5, o6, o7, o8, o9, o10, o11, o12, o13, o14, o15, o16]
abbrev xgd : IE := .ix (.var 4) (.call i__law_draw (.cons (.var 2) (.cons (.bf .len (.cons (.var 4) (.nil))) (.nil))))
section
variable {Γ : Nat → Option FDef} {k : Nat}
/-- [leaders[draw] for step in range(..)] -/
theorem nms_ok (h4 : Γ i__law_draw = some f__law_draw) {U U2 : Store} {s w v r m : Nat} {c : Cell} {ls : List Str} {it : II} {ρ : Env} (ei : evI (callN Γ (k + 1)) it ρ U = .ok (rangeL 0 r, .free) U2) (hs : U2[s]? = some c) (hc : SrcC c m) (hm : m < 10 ^ 12) (hw : U2[w]? = some (.lst (sd ls))) (hne : ls ≠ []) (hl : ls.length < 900) (hr : r < 100000)
    (g2 : ∀ (i : Int) T, evE (callN Γ (k + 1)) (.var 2) ((wipeE ρ [v]).set v (some (.int i))) T = .ok (.loc s) T) (g4 : ∀ (i : Int) T, evE (callN Γ (k + 1)) (.var 4) ((wipeE ρ [v]).set v (some (.int i))) T = .ok (.loc w) T) (hv : v < (wipeE ρ [v]).length) :
    ∃ c' L, SrcC c' (m + r) ∧ (∀ x ∈ L, x ∈ ls) ∧ L.length = r ∧ (U2.set s c')[s]? = some c' ∧ (U2.set s c')[w]? = some (.lst (sd ls)) ∧ (∀ (n : Nat) (l : List Str), U2[n]? = some (Cell.lst (sd l)) → (U2.set s c')[n]? = some (.lst (sd l))) ∧ (U2.set s c').length = U2.length ∧ evE (callN Γ (k + 1)) (.lc xgd (.nm v) it .none) ρ U = .ok (.loc U2.length) (U2.set s c' ++ [Cell.lst (sd L)]) := by
  have slt := (List.getElem?_eq_some_iff.mp hs).1
  have gs : ∀ (c' : Cell) (L : List Str), (U2.set s c' ++ [Cell.lst (sd L)])[s]? = some c' := fun c' L => get_old (set_get slt)
  have gk : ∀ (c' : Cell) (n : Nat) (l : List Str), U2[n]? = some (Cell.lst (sd l)) → (U2.set s c')[n]? = some (Cell.lst (sd l)) := fun c' n l hn => by
    rw [set_get' (ne_src hs hc hn)]
    exact hn
  have turn : ∀ (i : Int) (c0 : Cell) (m0 : Nat) (L : List Str), SrcC c0 m0 → m0 < 10 ^ 13 → ∃ c1 y, SrcC c1 (m0 + 1) ∧ y ∈ ls ∧ turnC (callN Γ (k + 1)) xgd (.nm v) .none ρ (.int i) (U2.set s c0 ++ [Cell.lst (sd L)]) = .ok (some (.str y)) ((U2.set s c0 ++ [Cell.lst (sd L)]).set s c1) := fun i c0 m0 L h0 hm0 => by
    have hw0 : (U2.set s c0 ++ [Cell.lst (sd L)])[w]? = some (.lst (sd ls)) := get_old (gk c0 w ls hw)
    obtain ⟨q, c1, q1, q2, q3, q4, q5, q6⟩ := drw (k := k) h4 (gs c0 L) h0 hm0 (b := ls.length) (List.length_pos_iff.mpr hne) (by omega)
    obtain ⟨y, hy⟩ : ∃ y, ls[q]? = some y := ⟨_, List.getElem?_eq_getElem q1⟩
    refine ⟨c1, y, q2, List.mem_of_getElem? hy, ?_⟩
    have hw1 := q5 w ls hw0
    have bt : bindT (.nm v) (.int i) (wipeE ρ (slotsT (.nm v))) = some ((wipeE ρ [v]).set v (some (.int i))) := by
      show (if v < (wipeE ρ [v]).length then some ((wipeE ρ [v]).set v (some (D.int i))) else none) = _
      rw [if_pos hv]
    have g2 := g2 i
    have g4 := g4 i
    generalize (wipeE ρ [v]).set v (some (D.int i)) = ρ1 at *
    generalize (U2.set s c0 ++ [Cell.lst (sd L)]).set s c1 = V1 at *
    generalize U2.set s c0 ++ [Cell.lst (sd L)] = V0 at *
    have le := lenD_loc hw0
    rw [sd_len] at le
    have ex : evE (callN Γ (k + 1)) xgd ρ1 V0 = .ok (.str y) V1 := by
      have ix : ixD (.loc w) (.int (q : Nat)) V1 = some (.str y) := by rw [ix_loc, hw1, ixC_lst, ixAt_nat, sd_get hy]
      generalize callN Γ (k + 1) = F at *
      rw [ev_ix, g4, bind_ok, ev_call, evs_cons, g2, bind_ok, evs_cons, ev_bf, evs_cons, g4, bind_ok]
      simp only [evs_nil, bind_ok, bf_len_loc, le, Option.map_some, okq, q3, ix]
    show (match bindT (.nm v) (.int i) (wipeE ρ (slotsT (.nm v))) with
      | some ρ' => (evC (callN Γ (k + 1)) .none ρ' V0).bind fun k1 S3 => if k1 then (evE (callN Γ (k + 1)) xgd ρ' S3).bind fun d S4 => Out.ok (some d) S4 else .ok none S3
      | none => .bad) = _
    rw [bt]
    show ((evE (callN Γ (k + 1)) xgd ρ1 V0).bind fun d S4 => Out.ok (some d) S4) = _
    rw [ex]
    rfl
  obtain ⟨S', e, c', L, e1, e2, e3, e4⟩ := loopC_all (src := .free) (f := turnC (callN Γ (k + 1)) xgd (.nm v) .none ρ) (n := U2.length) (xs := rangeL 0 r) (S := U2 ++ [Cell.lst []]) (fun i S' => ∃ c' L, S' = U2.set s c' ++ [Cell.lst (sd L)] ∧ SrcC c' (m + i) ∧ (∀ x ∈ L, x ∈ ls) ∧ L.length = i)
    ⟨c, [], by rw [set_self hs]; rfl, hc, by simp, rfl⟩ (fun i x S' ⟨c0, L, e1, e2, e3, e4⟩ hi => by
      subst e1
      obtain ⟨rfl, hi2⟩ := rangeL_get hi
      obtain ⟨c1, y, q2, ym, tn⟩ := turn (0 + i) c0 (m + i) L e2 (by omega)
      refine ⟨rfl, U2.set s c1 ++ [Cell.lst (sd (L ++ [y]))], ?_, c1, L ++ [y], rfl, q2, fun z hz => ?_, by rw [List.length_append, e4]; rfl⟩
      · unfold oneC
        rw [tn]
        show (gc _ _ _).bind _ = _
        have s1 : (U2.set s c0 ++ [Cell.lst (sd L)]).set s c1 = U2.set s c1 ++ [Cell.lst (sd L)] := by
          rw [set_app (by rw [List.length_set]; exact slt), List.set_set]
        have gd : gc (U2.set s c0 ++ [Cell.lst (sd L)]) (.str y) ((U2.set s c0 ++ [Cell.lst (sd L)]).set s c1) = .ok (.str y) ((U2.set s c0 ++ [Cell.lst (sd L)]).set s c1) := gc_set0 q2.cl rfl
        rw [gd, bind_ok, s1]
        have g : (U2.set s c1 ++ [Cell.lst (sd L)])[U2.length]? = some (.lst (sd L)) := by
          have := get_app0 (S := U2.set s c1) (T := [Cell.lst (sd L)])
          rw [List.length_set] at this
          rw [this]
          rfl
        have st : (U2.set s c1 ++ [Cell.lst (sd L)]).set U2.length (.lst (sd L ++ [.str y])) = U2.set s c1 ++ [Cell.lst (sd (L ++ [y]))] := by
          have := set_new0 (S := U2.set s c1) (T := [Cell.lst (sd L)]) (c := .lst (sd L ++ [.str y]))
          rw [List.length_set] at this
          rw [this]
          simp [sd]
        simp only [g, st]
        rw [if_pos (by rw [sd_len, e4, sizeLine_eq]; omega)]
      · rcases List.mem_append.mp hz with hz | hz
        · exact e3 z hz
        · rw [List.mem_singleton.mp hz]
          exact ym) (fun _ _ => rfl)
  subst e1
  have rl : (rangeL 0 r).length = r := by rw [rng0, List.length_map, List.length_range]
  rw [rl] at e2 e4
  refine ⟨c', L, e2, e3, e4, set_get slt, gk c' w ls hw, gk c', List.length_set, ?_⟩
  rw [ev_lc, ei, bind_ok, e]
  rfl
end
end Iv

set_option maxRecDepth 100000
namespace Iv
open PySem
/-! ### rows as lists of their own -/
theorem set_id {α : Type} {l : List α} {i : Nat} {a : α} (h : l[i]? = some a) : l.set i a = l := by
  refine List.ext_getElem? fun k => ?_
  by_cases e : i = k
  · subst e
    rw [List.getElem?_set_self (List.getElem?_eq_some_iff.mp h).1, h]
  · rw [List.getElem?_set_ne e]
theorem nodup_set {α : Type} {l : List α} {i : Nat} {a : α} (h : l.Nodup) (n : a ∉ l) : (l.set i a).Nodup := by
  induction l generalizing i with
  | nil => exact h
  | cons x l ih =>
    obtain ⟨h1, h2⟩ := List.nodup_cons.mp h
    cases i with
    | zero => exact List.nodup_cons.mpr ⟨fun m => n (List.mem_cons_of_mem _ m), h2⟩
    | succ i =>
      refine List.nodup_cons.mpr ⟨fun m => ?_, ih h2 fun m => n (List.mem_cons_of_mem _ m)⟩
      rcases List.mem_or_eq_of_mem_set m with m | m
      · exact h1 m
      · exact n (m ▸ List.mem_cons_self)
theorem ins_perm {α : Type} (P : List α) (i : Nat) (x : α) : (P.take i ++ [x] ++ P.drop i).Perm (x :: P) := by
  have := List.perm_middle (a := x) (l₁ := P.take i) (l₂ := P.drop i)
  rw [List.take_append_drop] at this
  rw [List.append_assoc]
  exact this
def rl (b : Nat) (P : List (Nat × List Str)) : List D := P.map fun p => D.loc (b + p.1)
structure Rw (b : Nat) (G : Store) (j0 : Nat) (P : List (Nat × List Str)) : Prop where
  at_ : G[j0]? = some (.lst (rl b P))
  row : ∀ p ∈ P, G[p.1]? = some (.lst (sd p.2))
  nd : (P.map (·.1)).Nodup
  nn : j0 ∉ P.map (·.1)
theorem rl_len (b : Nat) (P : List (Nat × List Str)) : (rl b P).length = P.length := List.length_map ..
theorem rl_get {b i : Nat} {P : List (Nat × List Str)} {p : Nat × List Str} (h : P[i]? = some p) : (rl b P)[i]? = some (.loc (b + p.1)) := by unfold rl; rw [List.getElem?_map, h]; rfl
section
variable {b j0 : Nat} {G T : Store} {P P' : List (Nat × List Str)}
theorem Rw.app (h : Rw b G j0 P) : Rw b (G ++ T) j0 P := ⟨get_old h.at_, fun p hp => get_old (h.row p hp), h.nd, h.nn⟩
theorem Rw.new (h : j0 < G.length) (hr : ∀ p ∈ P, G[p.1]? = some (.lst (sd p.2))) (nd : (P.map (·.1)).Nodup) (nn : j0 ∉ P.map (·.1)) : Rw b (G.set j0 (.lst (rl b P))) j0 P := by
  refine ⟨set_get h, fun p hp => ?_, nd, nn⟩
  rw [set_get' fun e : j0 = p.1 => nn (e ▸ List.mem_map.mpr ⟨p, hp, rfl⟩)]
  exact hr p hp
theorem Rw.put (h : Rw b G j0 P) {i : Nat} {p : Nat × List Str} (hp : P[i]? = some p) {r' : List Str} : Rw b (G.set p.1 (.lst (sd r'))) j0 (P.set i (p.1, r')) := by
  have pm := List.mem_of_getElem? hp
  have il := (List.getElem?_eq_some_iff.mp hp).1
  have ne : p.1 ≠ j0 := fun e => h.nn (e ▸ List.mem_map.mpr ⟨p, pm, rfl⟩)
  have e1 : (P.set i (p.1, r')).map (·.1) = P.map (·.1) := by
    rw [List.map_set]
    exact set_id (by rw [List.getElem?_map, hp]; rfl)
  have e2 : rl b (P.set i (p.1, r')) = rl b P := by
    unfold rl
    rw [List.map_set]
    exact set_id (by rw [List.getElem?_map, hp]; rfl)
  refine ⟨by rw [set_get' ne, h.at_, e2], fun q hq => ?_, by rw [e1]; exact h.nd, by rw [e1]; exact h.nn⟩
  obtain ⟨n, hn⟩ := List.getElem?_of_mem hq
  by_cases e : i = n
  · subst e
    rw [List.getElem?_set_self il] at hn
    cases hn
    exact set_get (List.getElem?_eq_some_iff.mp (h.row p pm)).1
  · rw [List.getElem?_set_ne e] at hn
    have q1 : (P.map (·.1))[n]? = some q.1 := by rw [List.getElem?_map, hn]; rfl
    have p1 : (P.map (·.1))[i]? = some p.1 := by rw [List.getElem?_map, hp]; rfl
    have ne2 : p.1 ≠ q.1 := fun z => by
      rw [← z] at q1
      exact e ((List.getElem?_inj (List.getElem?_eq_some_iff.mp p1).1 h.nd).mp (p1.trans q1.symm))
    rw [set_get' ne2]
    exact h.row q (List.mem_of_getElem? hn)
theorem Rw.lt (h : Rw b G j0 P) : j0 < G.length := (List.getElem?_eq_some_iff.mp h.at_).1
/-- fewer rows -/
theorem Rw.del (h : Rw b G j0 P) (i : Nat) : Rw b (G.set j0 (.lst (rl b (P.eraseIdx i)))) j0 (P.eraseIdx i) := by
  have sl : List.Sublist ((P.eraseIdx i).map (·.1)) (P.map (·.1)) := (List.eraseIdx_sublist P i).map _
  exact Rw.new h.lt (fun p hp => h.row p (List.mem_of_mem_eraseIdx hp)) (h.nd.sublist sl) (fun m => h.nn (sl.subset m))
/-- one row more -/
theorem Rw.ins (h : Rw b G j0 P) (i : Nat) {j : Nat} {r' : List Str} (hj : G[j]? = some (.lst (sd r'))) (n1 : j ∉ P.map (·.1)) (n2 : j ≠ j0) : Rw b (G.set j0 (.lst (rl b (P.take i ++ [(j, r')] ++ P.drop i)))) j0 (P.take i ++ [(j, r')] ++ P.drop i) := by
  have pm : ((P.take i ++ [(j, r')] ++ P.drop i).map (·.1)).Perm (j :: P.map (·.1)) := (ins_perm P i (j, r')).map (·.1)
  refine Rw.new h.lt (fun p hp => ?_) (pm.nodup_iff.mpr (List.nodup_cons.mpr ⟨n1, h.nd⟩)) fun m => ?_
  · rcases List.mem_append.mp hp with hp | hp
    · rcases List.mem_append.mp hp with hp | hp
      · exact h.row p (List.mem_of_mem_take hp)
      · rw [List.mem_singleton.mp hp]
        exact hj
    · exact h.row p (List.mem_of_mem_drop hp)
  · rcases List.mem_cons.mp (pm.subset m) with e | m
    · exact n2 e.symm
    · exact h.nn m
/-- another row -/
theorem Rw.swap (h : Rw b G j0 P) (i : Nat) {j : Nat} {r' : List Str} (hj : G[j]? = some (.lst (sd r'))) (n1 : j ∉ P.map (·.1)) (n2 : j ≠ j0) : Rw b (G.set j0 (.lst (rl b (P.set i (j, r'))))) j0 (P.set i (j, r')) := by
  have mem : ∀ p ∈ P.set i (j, r'), p = (j, r') ∨ p ∈ P := fun p hp => by
    rcases List.mem_or_eq_of_mem_set hp with hp | hp
    · exact .inr hp
    · exact .inl hp
  refine Rw.new h.lt (fun p hp => ?_) ?_ fun m => ?_
  · rcases mem p hp with rfl | hp
    · exact hj
    · exact h.row p hp
  · rw [List.map_set]
    exact nodup_set h.nd n1
  · obtain ⟨p, hp, e⟩ := List.mem_map.mp m
    rcases mem p hp with rfl | hp
    · exact n2 e
    · exact h.nn (List.mem_map.mpr ⟨p, hp, e⟩)
/-- a new place -/
theorem Rw.fresh (h : Rw b G j0 P) {n : Nat} (hn : G.length ≤ n) : n ∉ P.map (·.1) ∧ n ≠ j0 := by
  refine ⟨fun m => ?_, fun e => ?_⟩
  · obtain ⟨p, hp, e⟩ := List.mem_map.mp m
    have := (List.getElem?_eq_some_iff.mp (h.row p hp)).1
    omega
  · have := h.lt
    omega
end
/-! ### what may stand in a changed floor -/
theorem tx_of {x : Str} (h : (decide (x.length ≤ 5000) && x.cps.toList.all fun c => decide (c < 128)) = true) : Tx x := by
  obtain ⟨h1, h2⟩ := Bool.and_eq_true_iff.mp h
  refine ⟨x.cps.toList, rfl, ?_, fun c hc => of_decide_eq_true (List.all_eq_true.mp h2 c hc)⟩
  have : x.length = x.cps.toList.length := (Array.length_toList (xs := x.cps)).symm
  rw [← this]
  exact of_decide_eq_true h1
def odds : List Str := ["", "a1", "aB", "AB", "a b", "abcdefg", "Abcdefg", "a\n", "-a", "zz", "Zz", "ABCDEF"]
theorem odds_tx : ∀ x ∈ odds, Tx x := fun x hx => tx_of (List.all_eq_true.mp (show (odds.all fun x => decide (x.length ≤ 5000) && x.cps.toList.all fun c => decide (c < 128)) = true by decide +kernel) x hx)
theorem q_tx : Tx "q" := tx_of (by decide +kernel)
section
variable {B : Nat} {P : List (Nat × List Str)}
/-- rows of texts -/
def GR (B : Nat) (r : List Str) : Prop := r.length ≤ B ∧ ∀ x ∈ r, Tx x
theorem GF.of {fl : List (List Str)} (h1 : fl.length ≤ B) (h2 : ∀ r ∈ fl, GR B r) : GF B fl := ⟨h1, fun r hr => (h2 r hr).1, fun r hr => (h2 r hr).2⟩
theorem GF.gr {fl : List (List Str)} (h : GF B fl) {r : List Str} (hr : r ∈ fl) : GR B r := ⟨h.wd r hr, h.tx r hr⟩
theorem GR.mono {r : List Str} {B' : Nat} (h : GR B r) (e : B ≤ B') : GR B' r := ⟨Nat.le_trans h.1 e, h.2⟩
theorem gf_set {i j : Nat} {r' : List Str} (h : GF B (P.map (·.2))) (hr : GR (B + 1) r') : GF (B + 1) ((P.set i (j, r')).map (·.2)) := by
  refine .of ?_ fun r hq => ?_
  · rw [List.length_map, List.length_set]
    have := h.len
    rw [List.length_map] at this
    omega
  · rw [List.map_set] at hq
    rcases List.mem_or_eq_of_mem_set hq with hq | hq
    · exact (h.gr hq).mono (by omega)
    · rw [hq]
      exact hr
theorem gf_del {i : Nat} (h : GF B (P.map (·.2))) : GF (B + 1) ((P.eraseIdx i).map (·.2)) := by
  have sl : List.Sublist ((P.eraseIdx i).map (·.2)) (P.map (·.2)) := (List.eraseIdx_sublist P i).map _
  refine .of ?_ fun r hq => (h.gr (sl.subset hq)).mono (by omega)
  have := sl.length_le
  have := h.len
  omega
theorem gf_ins {i j : Nat} {r' : List Str} (h : GF B (P.map (·.2))) (hr : GR (B + 1) r') : GF (B + 1) ((P.take i ++ [(j, r')] ++ P.drop i).map (·.2)) := by
  have pm : ((P.take i ++ [(j, r')] ++ P.drop i).map (·.2)).Perm (r' :: P.map (·.2)) := (ins_perm P i (j, r')).map (·.2)
  refine .of ?_ fun r hq => ?_
  · rw [pm.length_eq, List.length_cons]
    have := h.len
    omega
  · rcases List.mem_cons.mp (pm.subset hq) with e | hq
    · rw [e]
      exact hr
    · exact (h.gr hq).mono (by omega)
theorem gr_set {r : List Str} {q : Nat} {x : Str} (h : GR B r) (hx : Tx x) : GR (B + 1) (r.set q x) := by
  refine ⟨by rw [List.length_set]; have := h.1; omega, fun y hy => ?_⟩
  rcases List.mem_or_eq_of_mem_set hy with hy | hy
  · exact h.2 y hy
  · rw [hy]
    exact hx
theorem gr_del {r : List Str} {q : Nat} (h : GR B r) : GR (B + 1) (r.eraseIdx q) :=
  ⟨by have := (List.eraseIdx_sublist r q).length_le; have := h.1; omega, fun y hy => h.2 y (List.mem_of_mem_eraseIdx hy)⟩
theorem gr_ins {r : List Str} {q : Nat} {x : Str} (h : GR B r) (hx : Tx x) : GR (B + 1) (r.take q ++ [x] ++ r.drop q) := by
  refine ⟨?_, fun y hy => ?_⟩
  · have := h.1
    rw [List.length_append, List.length_append, List.length_take, List.length_drop, List.length_singleton]
    omega
  · rcases List.mem_append.mp hy with hy | hy
    · rcases List.mem_append.mp hy with hy | hy
      · exact h.2 y (List.mem_of_mem_take hy)
      · rw [List.mem_singleton.mp hy]
        exact hx
    · exact h.2 y (List.mem_of_mem_drop hy)
end
end Iv

set_option maxRecDepth 100000
namespace Iv
open PySem
/-! ### one change -/
section
variable {Γ : Nat → Option FDef} {k : Nat} {S : Store} {s m : Nat} {c c0 : Cell} {G : Store}
theorem drwB (h4 : Γ i__law_draw = some f__law_draw) (hs : S[s]? = some c0) (hc : SrcC c m) (hm : m < 10 ^ 13) {b : Nat} (hb : 0 < b) (hb2 : b < 10 ^ 20) :
    ∃ r c', r < b ∧ SrcC c' (m + 1) ∧ callN Γ (k + 1) i__law_draw [.loc s, .int b] (S.set s c ++ G) = .ok (.int (r : Nat)) (S.set s c' ++ G) := by
  obtain ⟨r, c', h1, h2, h3⟩ := draw_ok (k := k) h4 (B_s hs (c' := c) (L := G)) hc (by omega) (b := b) hb (by omega)
  rw [B_set hs] at h3
  exact ⟨r, c', h1, h2, h3⟩
end
theorem insK_ok {S : Store} {n : Nat} {xs : List D} (h : S[n]? = some (.lst xs)) : bmK .insert (.loc n) S = true := by simp [bmK, h]
theorem popK_ok {S : Store} {n : Nat} {xs : List D} (h : S[n]? = some (.lst xs)) : bmK .popAt (.loc n) S = true := by simp [bmK, h]
theorem insD_ok {S : Store} {n i : Nat} {xs : List D} {d : D} (h : S[n]? = some (.lst xs)) (hi : i < 100000) (hz : xs.length < 100000) : bmD .insert (.loc n) [.int (i : Nat), d] S = .ok .non (S.set n (.lst (xs.take i ++ [d] ++ xs.drop i))) := by
  show (match S[n]? with
    | some (.lst xs) => if 0 ≤ (i : Int) ∧ (i : Int) < 2 ^ 63 ∧ xs.length < sizeLine then Out.ok D.non (S.set n (.lst (xs.take (i : Int).toNat ++ [d] ++ xs.drop (i : Int).toNat))) else .bad
    | _ => .bad) = _
  rw [h]
  show (if 0 ≤ (i : Int) ∧ (i : Int) < 2 ^ 63 ∧ xs.length < sizeLine then Out.ok D.non (S.set n (.lst (xs.take (i : Int).toNat ++ [d] ++ xs.drop (i : Int).toNat))) else .bad) = _
  rw [if_pos ⟨by omega, by omega, by rw [sizeLine_eq]; omega⟩, Int.toNat_natCast]
theorem setI_ok {S : Store} {n i : Nat} {xs : List D} {d : D} (h : S[n]? = some (.lst xs)) (hi : i < xs.length) : setD (.loc n) (.int (i : Nat)) d S = .ok () (S.set n (.lst (xs.set i d))) := by
  rw [set_loc, h, setC_lst, ixN_nat, if_pos hi, setL_some]
abbrev xv1 : IS := .asg (.nm 2) (.lc (.bf .list (.cons (.var 7) (.nil))) (.nm 7) (.val (.var 1)) (.none))
abbrev xv2 : IS := .asg (.nm 3) (.call i__law_draw (.cons (.var 0) (.cons (.bf .len (.cons (.var 2) (.nil))) (.nil))))
abbrev xv3 : IS := .asg (.nm 4) (.call i__law_draw (.cons (.var 0) (.cons (.con (.int 9)) (.nil))))
abbrev xv4 : IS := .asg (.nm 5) (.ix (.lst (.cons (.con (.str "")) (.cons (.con (.str "a1")) (.cons (.con (.str "aB")) (.cons (.con (.str "AB")) (.cons (.con (.str "a b")) (.cons (.con (.str "abcdefg")) (.cons (.con (.str "Abcdefg")) (.cons (.con (.str "a\n")) (.cons (.con (.str "-a")) (.cons (.con (.str "zz")) (.cons (.con (.str "Zz")) (.cons (.con (.str "ABCDEF")) (.nil)))))))))))))) (.call i__law_draw (.cons (.var 0) (.cons (.con (.int 12)) (.nil)))))
abbrev xw0 : ISs := .cons (.asg (.sub (.var 2) (.var 3)) (.lst (.cons (.var 5) (.nil)))) (.nil)
abbrev xwr : IE := .ix (.var 2) (.var 3)
abbrev xw1 : ISs := .cons (.asg (.sub xwr (.call i__law_draw (.cons (.var 0) (.cons (.bf .len (.cons xwr (.nil))) (.nil))))) (.var 5)) (.nil)
abbrev xw3a : IS := .asg (.nm 6) (.ix (.var 2) (.call i__law_draw (.cons (.var 0) (.cons (.bf .len (.cons (.var 2) (.nil))) (.nil)))))
abbrev xw3b : IS := .asg (.sub xwr (.call i__law_draw (.cons (.var 0) (.cons (.bf .len (.cons xwr (.nil))) (.nil))))) (.ix (.bin .Add (.var 6) (.lst (.cons (.con (.str "q")) (.nil)))) (.call i__law_draw (.cons (.var 0) (.cons (.bin .Add (.bf .len (.cons (.var 6) (.nil))) (.con (.int 1))) (.nil)))))
abbrev xw4 : ISs := .cons (.expr (.bm .popAt xwr (.cons (.call i__law_draw (.cons (.var 0) (.cons (.bf .len (.cons xwr (.nil))) (.nil)))) (.nil)))) (.nil)
abbrev xw5 : ISs := .cons (.expr (.bm .insert xwr (.cons (.call i__law_draw (.cons (.var 0) (.cons (.bin .Add (.bf .len (.cons xwr (.nil))) (.con (.int 1))) (.nil)))) (.cons (.var 5) (.nil))))) (.nil)
abbrev xw6 : ISs := .cons (.expr (.bm .popAt (.var 2) (.cons (.var 3) (.nil)))) (.nil)
abbrev xw7 : ISs := .cons (.expr (.bm .insert (.var 2) (.cons (.var 3) (.cons (.lst (.nil)) (.nil))))) (.nil)
abbrev xw8 : ISs := .cons (.expr (.bm .append (.var 2) (.cons (.bin .Mult (.lst (.cons (.var 5) (.nil))) (.bf .len (.cons xwr (.nil)))) (.nil)))) (.nil)
abbrev xv5g : IS := .ife (.cmp .Eq (.var 4) (.con (.int 7))) xw7 xw8
abbrev xv5f : IS := .ife (.cmp .Eq (.var 4) (.con (.int 6))) xw6 (.cons xv5g (.nil))
abbrev xv5e : IS := .ife (.cmp .Eq (.var 4) (.con (.int 5))) xw5 (.cons xv5f (.nil))
abbrev xv5d : IS := .ife (.cmp .Eq (.var 4) (.con (.int 4))) xw4 (.cons xv5e (.nil))
abbrev xv5c : IS := .ife (.cmp .Eq (.var 4) (.con (.int 3))) (.cons xw3a (.cons xw3b (.nil))) (.cons xv5d (.nil))
abbrev xv5b : IS := .ife (.cmp .Lt (.var 4) (.con (.int 3))) xw1 (.cons xv5c (.nil))
abbrev xv5 : IS := .ife (.cmp .Eq xwr (.lst (.nil))) xw0 (.cons xv5b (.nil))
abbrev xv6 : IS := .ret (.some (.bf .tuple (.cons (.lc (.bf .tuple (.cons (.var 7) (.nil))) (.nm 7) (.val (.var 2)) (.none)) (.nil))))
abbrev kEv (s : Nat) (fl : List (List Str)) (n2 i w : Nat) (odd : Str) (o6 : Option D) : Env := [some (.loc s), some (.tup (fd fl)), some (.loc n2), some (.int (i : Nat)), some (.int (w : Nat)), some (.str odd), o6, none]
theorem sd_set (r : List Str) (q : Nat) (x : Str) : (sd r).set q (.str x) = sd (r.set q x) := by unfold sd; rw [List.map_set]
theorem sd_del (r : List Str) (q : Nat) : (sd r).eraseIdx q = sd (r.eraseIdx q) := erase_map D.str r q
theorem sd_ins (r : List Str) (q : Nat) (x : Str) : (sd r).take q ++ [.str x] ++ (sd r).drop q = sd (r.take q ++ [x] ++ r.drop q) := by
  unfold sd
  rw [List.map_append, List.map_append, List.map_take, List.map_drop]
  rfl
section
variable {Γ : Nat → Option FDef} {k : Nat} {S : Store} {s m B j0 i w : Nat} {c c0 : Cell} {G : Store} {P : List (Nat × List Str)} {p : Nat × List Str} {fl : List (List Str)} {odd : Str} {o6 : Option D}
/-- what a change leaves -/
def Chg (Γ : Nat → Option FDef) (k : Nat) (S : Store) (s m B j0 i w : Nat) (fl : List (List Str)) (odd : Str) (o : OutS) : Prop :=
  ∃ c' G' P' o6', SrcC c' m ∧ Rw S.length G' j0 P' ∧ GF B (P'.map (·.2)) ∧ o = .nx (kEv s fl (S.length + j0) i w odd o6') (S.set s c' ++ G')
theorem chg0 (hc : SrcC c m) (hR : Rw S.length G j0 P) (hg : GF B (P.map (·.2))) (hB : 0 < B) (hp : P[i]? = some p) (ho : Tx odd) : Chg Γ k S s (m + 10) (B + 1) j0 i w fl odd (evSs (callN Γ (k + 1)) xw0 (kEv s fl (S.length + j0) i w odd o6) (S.set s c ++ G)) := by
  have il := (List.getElem?_eq_some_iff.mp hp).1
  have hR1 := hR.app (T := [Cell.lst (sd [odd])])
  have fr := hR.fresh (n := G.length) (Nat.le_refl _)
  have hj : (G ++ [Cell.lst (sd [odd])])[G.length]? = some (.lst (sd [odd])) := by rw [get_app0]; rfl
  refine ⟨c, _, _, o6, hc.mono (by omega), hR1.swap i hj fr.1 fr.2, gf_set hg ⟨by rw [List.length_singleton]; omega, fun y hy => by rw [List.mem_singleton.mp hy]; exact ho⟩, ?_⟩
  have nl : newC (.lst [.str odd]) (S.set s c ++ G) = .ok (.loc (S.length + G.length)) (S.set s c ++ (G ++ [Cell.lst (sd [odd])])) := by
    rw [newc, B_len, B_app]
    rfl
  have g2 : (S.set s c ++ (G ++ [Cell.lst (sd [odd])]))[S.length + j0]? = some (.lst (rl S.length P)) := by rw [B_get]; exact hR1.at_
  have st := setI_ok (d := .loc (S.length + G.length)) g2 (i := i) (by rw [rl_len]; exact il)
  rw [B_new] at st
  have e : (rl S.length P).set i (.loc (S.length + G.length)) = rl S.length (P.set i (G.length, [odd])) := by unfold rl; rw [List.map_set]
  rw [e] at st
  generalize S.set s c ++ (G ++ [Cell.lst (sd [odd])]).set j0 (.lst (rl S.length (P.set i (G.length, [odd])))) = V2 at *
  generalize S.set s c ++ (G ++ [Cell.lst (sd [odd])]) = V1 at *
  generalize S.set s c ++ G = V0 at *
  generalize callN Γ (k + 1) = F at *
  simp [-newc, -set_loc, nl, st]
theorem chg1 (h4 : Γ i__law_draw = some f__law_draw) (hs : S[s]? = some c0) (hc : SrcC c m) (hm : m < 10 ^ 12) (hR : Rw S.length G j0 P) (hg : GF B (P.map (·.2))) (hB : B < 1000) (hp : P[i]? = some p) (hne : p.2 ≠ []) (ho : Tx odd) : Chg Γ k S s (m + 10) (B + 1) j0 i w fl odd (evSs (callN Γ (k + 1)) xw1 (kEv s fl (S.length + j0) i w odd o6) (S.set s c ++ G)) := by
  have pm := List.mem_of_getElem? hp
  have gr := hg.gr (List.mem_map.mpr ⟨p, pm, rfl⟩)
  obtain ⟨q, c1, q1, hc1, d1⟩ := drwB (k := k) (G := G) h4 hs hc (by omega) (b := p.2.length) (List.length_pos_iff.mpr hne) (by have := gr.1; omega)
  refine ⟨c1, _, _, o6, hc1.mono (by omega), hR.put hp (r' := p.2.set q odd), gf_set hg (gr_set gr ho), ?_⟩
  have g2 : ∀ c, (S.set s c ++ G)[S.length + j0]? = some (.lst (rl S.length P)) := fun c => by rw [B_get]; exact hR.at_
  have gp : ∀ c, (S.set s c ++ G)[S.length + p.1]? = some (.lst (sd p.2)) := fun c => by rw [B_get]; exact hR.row p pm
  have ix : ∀ c, ixD (.loc (S.length + j0)) (.int (i : Nat)) (S.set s c ++ G) = some (.loc (S.length + p.1)) := fun c => by rw [ix_loc, g2, ixC_lst, ixAt_nat, rl_get hp]
  have ix0 := ix c
  have ix1 := ix c1
  have le := lenD_loc (gp c)
  rw [sd_len] at le
  have st := setI_ok (d := .str odd) (gp c1) (i := q) (by rw [sd_len]; exact q1)
  rw [B_new, sd_set] at st
  generalize S.set s c1 ++ G.set p.1 (.lst (sd (p.2.set q odd))) = V2 at *
  generalize S.set s c1 ++ G = V1 at *
  generalize S.set s c ++ G = V0 at *
  generalize callN Γ (k + 1) = F at *
  simp [-set_loc, -ix_loc, ix0, le, d1, st]
theorem chg3 (h4 : Γ i__law_draw = some f__law_draw) (hs : S[s]? = some c0) (hc : SrcC c m) (hm : m < 10 ^ 12) (hR : Rw S.length G j0 P) (hg : GF B (P.map (·.2))) (hB : B < 1000) (hp : P[i]? = some p) (hne : p.2 ≠ []) : Chg Γ k S s (m + 10) (B + 1) j0 i w fl odd (evSs (callN Γ (k + 1)) (.cons xw3a (.cons xw3b (.nil))) (kEv s fl (S.length + j0) i w odd o6) (S.set s c ++ G)) := by
  have pm := List.mem_of_getElem? hp
  have il := (List.getElem?_eq_some_iff.mp hp).1
  have gr := hg.gr (List.mem_map.mpr ⟨p, pm, rfl⟩)
  have pl := hg.len
  rw [List.length_map] at pl
  obtain ⟨q, c1, q1, hc1, d1⟩ := drwB (k := k) (G := G) h4 hs hc (by omega) (b := P.length) (by omega) (by omega)
  obtain ⟨u, hu⟩ : ∃ u, P[q]? = some u := ⟨_, List.getElem?_eq_getElem q1⟩
  have um := List.mem_of_getElem? hu
  have gu := hg.gr (List.mem_map.mpr ⟨u, um, rfl⟩)
  have g2 : ∀ c, (S.set s c ++ G)[S.length + j0]? = some (.lst (rl S.length P)) := fun c => by rw [B_get]; exact hR.at_
  have le0 := lenD_loc (g2 c)
  rw [rl_len] at le0
  have ixu : ixD (.loc (S.length + j0)) (.int (q : Nat)) (S.set s c1 ++ G) = some (.loc (S.length + u.1)) := by rw [ix_loc, g2, ixC_lst, ixAt_nat, rl_get hu]
  have va : evS (callN Γ (k + 1)) xw3a (kEv s fl (S.length + j0) i w odd o6) (S.set s c ++ G) = .nx (kEv s fl (S.length + j0) i w odd (some (.loc (S.length + u.1)))) (S.set s c1 ++ G) := by
    generalize S.set s c1 ++ G = V1 at *
    generalize S.set s c ++ G = V0 at *
    generalize callN Γ (k + 1) = F at *
    simp [-ix_loc, le0, d1, ixu]
  rw [evss_nx va]
  -- other + ["q"]
  have nl : newC (.lst [.str "q"]) (S.set s c1 ++ G) = .ok (.loc (S.length + G.length)) (S.set s c1 ++ (G ++ [Cell.lst (sd ["q"])])) := by
    rw [newc, B_len, B_app]
    rfl
  have gu1 : (S.set s c1 ++ (G ++ [Cell.lst (sd ["q"])]))[S.length + u.1]? = some (.lst (sd u.2)) := by rw [B_get]; exact get_old (hR.row u um)
  have gq1 : (S.set s c1 ++ (G ++ [Cell.lst (sd ["q"])]))[S.length + G.length]? = some (.lst (sd ["q"])) := by rw [B_get, get_app0]; rfl
  have ad := add_loc gu1 gq1 (by rw [sd_len, sd_len, List.length_singleton]; have := gu.1; omega)
  have e1 : sd u.2 ++ sd ["q"] = sd (u.2 ++ (["q"] : List Str)) := by unfold sd; rw [List.map_append]
  rw [e1, B_len, B_app] at ad
  have lq : (G ++ [Cell.lst (sd ["q"])]).length = G.length + 1 := List.length_append
  rw [lq] at ad
  obtain ⟨G2, hG2⟩ : ∃ G2, G2 = G ++ [Cell.lst (sd ["q"])] ++ [Cell.lst (sd (u.2 ++ (["q"] : List Str)))] := ⟨_, rfl⟩
  have hR2 : Rw S.length G2 j0 P := by rw [hG2]; exact hR.app.app
  have gu2 : G2[G.length + 1]? = some (.lst (sd (u.2 ++ (["q"] : List Str)))) := by
    rw [hG2, ← lq, get_app0]
    rfl
  rw [← hG2] at ad
  obtain ⟨t, c2, t1, hc2, d2⟩ := drwB (k := k) (G := G2) h4 hs hc1 (by omega) (b := u.2.length + 1) (by omega) (by have := gu.1; omega)
  have gb : ∀ c, (S.set s c ++ G2)[S.length + u.1]? = some (.lst (sd u.2)) := fun c => by rw [B_get]; exact hR2.row u um
  have leu := lenD_loc (gb c1)
  rw [sd_len] at leu
  have d2 : callN Γ (k + 1) i__law_draw [.loc s, .int ((u.2.length : Int) + 1)] (S.set s c1 ++ G2) = .ok (.int (t : Nat)) (S.set s c2 ++ G2) := d2
  obtain ⟨y, hy⟩ : ∃ y, (u.2 ++ (["q"] : List Str))[t]? = some y := ⟨_, List.getElem?_eq_getElem (by rw [List.length_append, List.length_singleton]; exact t1)⟩
  have yt : Tx y := by
    rcases List.mem_append.mp (List.mem_of_getElem? hy) with h | h
    · exact gu.2 y h
    · rw [List.mem_singleton.mp h]
      exact q_tx
  have ixy : ixD (.loc (S.length + (G.length + 1))) (.int (t : Nat)) (S.set s c2 ++ G2) = some (.str y) := by
    have : (S.set s c2 ++ G2)[S.length + (G.length + 1)]? = some (.lst (sd (u.2 ++ (["q"] : List Str)))) := by rw [B_get]; exact gu2
    rw [ix_loc, this, ixC_lst, ixAt_nat, sd_get hy]
  -- the store
  have g22 : ∀ c, (S.set s c ++ G2)[S.length + j0]? = some (.lst (rl S.length P)) := fun c => by rw [B_get]; exact hR2.at_
  have gp : ∀ c, (S.set s c ++ G2)[S.length + p.1]? = some (.lst (sd p.2)) := fun c => by rw [B_get]; exact hR2.row p pm
  have ix : ∀ c, ixD (.loc (S.length + j0)) (.int (i : Nat)) (S.set s c ++ G2) = some (.loc (S.length + p.1)) := fun c => by rw [ix_loc, g22, ixC_lst, ixAt_nat, rl_get hp]
  obtain ⟨v, c3, v1, hc3, d3⟩ := drwB (k := k) (G := G2) h4 hs hc2 (by omega) (b := p.2.length) (List.length_pos_iff.mpr hne) (by have := gr.1; omega)
  refine ⟨c3, _, _, some (.loc (S.length + u.1)), hc3.mono (by omega), hR2.put hp (r' := p.2.set v y), gf_set hg (gr_set gr yt), ?_⟩
  have ix2 := ix c2
  have lep := lenD_loc (gp c2)
  rw [sd_len] at lep
  have st := setI_ok (d := .str y) (gp c3) (i := v) (by rw [sd_len]; exact v1)
  rw [B_new, sd_set] at st
  generalize S.set s c3 ++ G2.set p.1 (.lst (sd (p.2.set v y))) = W4 at *
  generalize S.set s c3 ++ G2 = W3 at *
  generalize S.set s c2 ++ G2 = W2 at *
  generalize S.set s c1 ++ G2 = W1 at *
  generalize S.set s c1 ++ (G ++ [Cell.lst (sd ["q"])]) = W0 at *
  generalize S.set s c1 ++ G = V1 at *
  generalize callN Γ (k + 1) = F at *
  simp [-newc, -set_loc, -ix_loc, nl, ad, leu, d2, ixy, ix2, lep, d3, st]
theorem chg4 (h4 : Γ i__law_draw = some f__law_draw) (hs : S[s]? = some c0) (hc : SrcC c m) (hm : m < 10 ^ 12) (hR : Rw S.length G j0 P) (hg : GF B (P.map (·.2))) (hB : B < 1000) (hp : P[i]? = some p) (hne : p.2 ≠ []) : Chg Γ k S s (m + 10) (B + 1) j0 i w fl odd (evSs (callN Γ (k + 1)) xw4 (kEv s fl (S.length + j0) i w odd o6) (S.set s c ++ G)) := by
  have pm := List.mem_of_getElem? hp
  have gr := hg.gr (List.mem_map.mpr ⟨p, pm, rfl⟩)
  obtain ⟨q, c1, q1, hc1, d1⟩ := drwB (k := k) (G := G) h4 hs hc (by omega) (b := p.2.length) (List.length_pos_iff.mpr hne) (by have := gr.1; omega)
  refine ⟨c1, _, _, o6, hc1.mono (by omega), hR.put hp (r' := p.2.eraseIdx q), gf_set hg (gr_del gr), ?_⟩
  have g2 : ∀ c, (S.set s c ++ G)[S.length + j0]? = some (.lst (rl S.length P)) := fun c => by rw [B_get]; exact hR.at_
  have gp : ∀ c, (S.set s c ++ G)[S.length + p.1]? = some (.lst (sd p.2)) := fun c => by rw [B_get]; exact hR.row p pm
  have ix0 : ixD (.loc (S.length + j0)) (.int (i : Nat)) (S.set s c ++ G) = some (.loc (S.length + p.1)) := by rw [ix_loc, g2, ixC_lst, ixAt_nat, rl_get hp]
  have le := lenD_loc (gp c)
  rw [sd_len] at le
  obtain ⟨y, hy⟩ : ∃ y, p.2[q]? = some y := ⟨_, List.getElem?_eq_getElem q1⟩
  have po := pop_ok (gp c1) (sd_get hy) (by have := gr.1; omega)
  rw [B_new, sd_del] at po
  have bk := popK_ok (gp c)
  generalize S.set s c1 ++ G.set p.1 (.lst (sd (p.2.eraseIdx q))) = V2 at *
  generalize S.set s c1 ++ G = V1 at *
  generalize S.set s c ++ G = V0 at *
  generalize callN Γ (k + 1) = F at *
  simp [-ix_loc, ix0, le, d1, bk, po]
theorem chg5 (h4 : Γ i__law_draw = some f__law_draw) (hs : S[s]? = some c0) (hc : SrcC c m) (hm : m < 10 ^ 12) (hR : Rw S.length G j0 P) (hg : GF B (P.map (·.2))) (hB : B < 1000) (hp : P[i]? = some p) (ho : Tx odd) : Chg Γ k S s (m + 10) (B + 1) j0 i w fl odd (evSs (callN Γ (k + 1)) xw5 (kEv s fl (S.length + j0) i w odd o6) (S.set s c ++ G)) := by
  have pm := List.mem_of_getElem? hp
  have gr := hg.gr (List.mem_map.mpr ⟨p, pm, rfl⟩)
  obtain ⟨q, c1, q1, hc1, d1⟩ := drwB (k := k) (G := G) h4 hs hc (by omega) (b := p.2.length + 1) (by omega) (by have := gr.1; omega)
  have d1 : callN Γ (k + 1) i__law_draw [.loc s, .int ((p.2.length : Int) + 1)] (S.set s c ++ G) = .ok (.int (q : Nat)) (S.set s c1 ++ G) := d1
  refine ⟨c1, _, _, o6, hc1.mono (by omega), hR.put hp (r' := p.2.take q ++ [odd] ++ p.2.drop q), gf_set hg (gr_ins gr ho), ?_⟩
  have g2 : ∀ c, (S.set s c ++ G)[S.length + j0]? = some (.lst (rl S.length P)) := fun c => by rw [B_get]; exact hR.at_
  have gp : ∀ c, (S.set s c ++ G)[S.length + p.1]? = some (.lst (sd p.2)) := fun c => by rw [B_get]; exact hR.row p pm
  have ix0 : ixD (.loc (S.length + j0)) (.int (i : Nat)) (S.set s c ++ G) = some (.loc (S.length + p.1)) := by rw [ix_loc, g2, ixC_lst, ixAt_nat, rl_get hp]
  have le := lenD_loc (gp c)
  rw [sd_len] at le
  have po := insD_ok (d := .str odd) (i := q) (gp c1) (by have := gr.1; omega) (by rw [sd_len]; have := gr.1; omega)
  rw [B_new, sd_ins] at po
  have bk := insK_ok (gp c)
  generalize S.set s c1 ++ G.set p.1 (.lst (sd (p.2.take q ++ [odd] ++ p.2.drop q))) = V2 at *
  generalize S.set s c1 ++ G = V1 at *
  generalize S.set s c ++ G = V0 at *
  generalize callN Γ (k + 1) = F at *
  simp [-ix_loc, ix0, le, d1, bk, po]
theorem chg6 (hc : SrcC c m) (hR : Rw S.length G j0 P) (hg : GF B (P.map (·.2))) (hB : B < 1000) (hp : P[i]? = some p) : Chg Γ k S s (m + 10) (B + 1) j0 i w fl odd (evSs (callN Γ (k + 1)) xw6 (kEv s fl (S.length + j0) i w odd o6) (S.set s c ++ G)) := by
  have il := (List.getElem?_eq_some_iff.mp hp).1
  have pl := hg.len
  rw [List.length_map] at pl
  refine ⟨c, _, _, o6, hc.mono (by omega), hR.del i, gf_del hg, ?_⟩
  have g2 : (S.set s c ++ G)[S.length + j0]? = some (.lst (rl S.length P)) := by rw [B_get]; exact hR.at_
  have po := pop_ok g2 (rl_get hp) (by omega)
  have e : (rl S.length P).eraseIdx i = rl S.length (P.eraseIdx i) := erase_map _ P i
  rw [B_new, e] at po
  have bk := popK_ok g2
  generalize S.set s c ++ G.set j0 (.lst (rl S.length (P.eraseIdx i))) = V2 at *
  generalize S.set s c ++ G = V0 at *
  generalize callN Γ (k + 1) = F at *
  simp [bk, po]
theorem rl_ins (b i j : Nat) (r : List Str) (P : List (Nat × List Str)) : (rl b P).take i ++ [.loc (b + j)] ++ (rl b P).drop i = rl b (P.take i ++ [(j, r)] ++ P.drop i) := by
  unfold rl
  rw [List.map_append, List.map_append, List.map_take, List.map_drop]
  rfl
theorem chg7 (hc : SrcC c m) (hR : Rw S.length G j0 P) (hg : GF B (P.map (·.2))) (hB : B < 1000) (hp : P[i]? = some p) : Chg Γ k S s (m + 10) (B + 1) j0 i w fl odd (evSs (callN Γ (k + 1)) xw7 (kEv s fl (S.length + j0) i w odd o6) (S.set s c ++ G)) := by
  have il := (List.getElem?_eq_some_iff.mp hp).1
  have pl := hg.len
  rw [List.length_map] at pl
  have hR1 := hR.app (T := [Cell.lst (sd [])])
  have fr := hR.fresh (n := G.length) (Nat.le_refl _)
  have hj : (G ++ [Cell.lst (sd [])])[G.length]? = some (.lst (sd [])) := by rw [get_app0]; rfl
  refine ⟨c, _, _, o6, hc.mono (by omega), hR1.ins i hj fr.1 fr.2, gf_ins hg ⟨Nat.zero_le _, by simp⟩, ?_⟩
  have g2 : (S.set s c ++ G)[S.length + j0]? = some (.lst (rl S.length P)) := by rw [B_get]; exact hR.at_
  have g3 : (S.set s c ++ (G ++ [Cell.lst (sd [])]))[S.length + j0]? = some (.lst (rl S.length P)) := by rw [B_get]; exact hR1.at_
  have nl : newC (.lst []) (S.set s c ++ G) = .ok (.loc (S.length + G.length)) (S.set s c ++ (G ++ [Cell.lst (sd [])])) := by
    rw [newc, B_len, B_app]
    rfl
  have po := insD_ok (d := .loc (S.length + G.length)) (i := i) g3 (by omega) (by rw [rl_len]; omega)
  rw [B_new, rl_ins S.length i G.length [] P] at po
  have bk := insK_ok g2
  generalize S.set s c ++ (G ++ [Cell.lst (sd [])]).set j0 (.lst (rl S.length (P.take i ++ [(G.length, [])] ++ P.drop i))) = V2 at *
  generalize S.set s c ++ (G ++ [Cell.lst (sd [])]) = V1 at *
  generalize S.set s c ++ G = V0 at *
  generalize callN Γ (k + 1) = F at *
  simp [-newc, nl, bk, po]
theorem chg8 (hc : SrcC c m) (hR : Rw S.length G j0 P) (hg : GF B (P.map (·.2))) (hB : B ≤ 100) (hp : P[i]? = some p) (ho : Tx odd) : Chg Γ k S s (m + 10) (B + 1) j0 i w fl odd (evSs (callN Γ (k + 1)) xw8 (kEv s fl (S.length + j0) i w odd o6) (S.set s c ++ G)) := by
  have pm := List.mem_of_getElem? hp
  have il := (List.getElem?_eq_some_iff.mp hp).1
  have gr := hg.gr (List.mem_map.mpr ⟨p, pm, rfl⟩)
  have pl := hg.len
  rw [List.length_map] at pl
  have nl : newC (.lst [.str odd]) (S.set s c ++ G) = .ok (.loc (S.length + G.length)) (S.set s c ++ (G ++ [Cell.lst (sd [odd])])) := by
    rw [newc, B_len, B_app]
    rfl
  obtain ⟨G1, hG1⟩ : ∃ G1, G1 = G ++ [Cell.lst (sd [odd])] := ⟨_, rfl⟩
  have hR1 : Rw S.length G1 j0 P := by rw [hG1]; exact hR.app
  have go : G1[G.length]? = some (.lst (sd [odd])) := by rw [hG1, get_app0]; rfl
  rw [← hG1] at nl
  have g2 : ∀ G, Rw S.length G j0 P → (S.set s c ++ G)[S.length + j0]? = some (.lst (rl S.length P)) := fun G h => by rw [B_get]; exact h.at_
  have ix1 : ixD (.loc (S.length + j0)) (.int (i : Nat)) (S.set s c ++ G1) = some (.loc (S.length + p.1)) := by rw [ix_loc, g2 G1 hR1, ixC_lst, ixAt_nat, rl_get hp]
  have gp1 : (S.set s c ++ G1)[S.length + p.1]? = some (.lst (sd p.2)) := by rw [B_get]; exact hR1.row p pm
  have le := lenD_loc gp1
  rw [sd_len] at le
  have ml := mul_loc (S := S.set s c ++ G1) (m := S.length + G.length) (k := p.2.length) (l := [odd]) (by rw [B_get]; exact go) (by have := gr.1; omega) (by rw [List.length_singleton]; omega)
  have e1 : (List.replicate p.2.length [odd]).flatten = List.replicate p.2.length odd := by
    generalize p.2.length = n
    induction n with
    | zero => rfl
    | succ n ih => rw [List.replicate_succ, List.flatten_cons, ih, List.replicate_succ]; rfl
  rw [e1, B_len, B_app] at ml
  have hR2 := hR1.app (T := [Cell.lst (sd (List.replicate p.2.length odd))])
  have fr := hR1.fresh (n := G1.length) (Nat.le_refl _)
  have hj : (G1 ++ [Cell.lst (sd (List.replicate p.2.length odd))])[G1.length]? = some (.lst (sd (List.replicate p.2.length odd))) := by rw [get_app0]; rfl
  have hI := hR2.ins P.length hj fr.1 fr.2
  have hF := gf_ins (i := P.length) (j := G1.length) (r' := List.replicate p.2.length odd) hg ⟨by rw [List.length_replicate]; have := gr.1; omega, fun y hy => by rw [(List.mem_replicate.mp hy).2]; exact ho⟩
  refine ⟨c, _, _, o6, hc.mono (by omega), hI, hF, ?_⟩
  have ap := appD_ok (d := .loc (S.length + G1.length)) (g2 _ hR2) (by rw [rl_len, sizeLine_eq]; omega)
  have e2 : rl S.length P ++ [.loc (S.length + G1.length)] = rl S.length (P.take P.length ++ [(G1.length, List.replicate p.2.length odd)] ++ P.drop P.length) := by
    rw [List.take_length, List.drop_length, List.append_nil]
    unfold rl
    rw [List.map_append]
    rfl
  rw [B_new, e2] at ap
  have bk := appK_ok (g2 G hR)
  generalize S.set s c ++ (G1 ++ [Cell.lst (sd (List.replicate p.2.length odd))]).set j0 (.lst (rl S.length (P.take P.length ++ [(G1.length, List.replicate p.2.length odd)] ++ P.drop P.length))) = V3 at *
  generalize S.set s c ++ (G1 ++ [Cell.lst (sd (List.replicate p.2.length odd))]) = V2 at *
  generalize S.set s c ++ G1 = V1 at *
  generalize S.set s c ++ G = V0 at *
  generalize callN Γ (k + 1) = F at *
  simp [-newc, -ix_loc, nl, ix1, le, ml, bk, ap]
end
end Iv

set_option maxRecDepth 100000
namespace Iv
open PySem
theorem list_rngL {α : Type} (l : List α) (d : α) : l = (List.range l.length).map fun k => l.getD k d := by
  apply List.ext_getElem?
  intro k
  rw [List.getElem?_map]
  by_cases h : k < l.length
  · rw [List.getElem?_range h, List.getElem?_eq_getElem h]
    simp [List.getD, h]
  · rw [List.getElem?_eq_none (by omega), List.getElem?_eq_none (by rw [List.length_range]; omega)]
    rfl
def rowT (r : List Str) : D := .tup (sd r)
section
variable {Γ : Nat → Option FDef} {k : Nat} {S : Store} {s m B : Nat} {c c0 : Cell} {fl : List (List Str)}
def P0 (fl : List (List Str)) (n : Nat) : List (Nat × List Str) := (List.range n).map fun n => (n + 1, fl.getD n [])
def G0 (b : Nat) (fl : List (List Str)) (n : Nat) : Store := Cell.lst (rl b (P0 fl n)) :: (fl.take n).map fun r => Cell.lst (sd r)
theorem P0_succ (fl : List (List Str)) (n : Nat) : P0 fl (n + 1) = P0 fl n ++ [(n + 1, fl.getD n [])] := by unfold P0; rw [List.range_succ, List.map_append]; rfl
theorem P0_rows (fl : List (List Str)) : (P0 fl fl.length).map (·.2) = fl := by
  unfold P0
  rw [List.map_map]
  exact (list_rngL fl []).symm
theorem rows_lc {F : Fns} (hr : ∀ r ∈ fl, r.length < 100000) (hl : fl.length < 100000) : evE F (.lc (.bf .list (.cons (.var 7) (.nil))) (.nm 7) (.val (.var 1)) (.none)) [some (.loc s), some (.tup (fd fl)), none, none, none, none, none, none] S = .ok (.loc S.length) (S ++ G0 S.length fl fl.length) := by
  obtain ⟨S', e0, e1⟩ := loopC_all (src := .free) (f := turnC F (.bf .list (.cons (.var 7) (.nil))) (.nm 7) .none [some (.loc s), some (.tup (fd fl)), none, none, none, none, none, none]) (n := S.length) (xs := fd fl) (S := S ++ [Cell.lst []]) (fun i S' => S' = S ++ G0 S.length fl i) rfl (fun i x S' e hi => by
    subst e
    obtain ⟨r, hr1, rfl⟩ := fd_get' hi
    have il := (List.getElem?_eq_some_iff.mp hr1).1
    have tk : fl.take (i + 1) = fl.take i ++ [r] := by rw [List.take_succ, hr1]; rfl
    have rD : fl.getD i [] = r := by simp [List.getD, hr1]
    have ul : (S ++ G0 S.length fl i).length = S.length + (i + 1) := by
      unfold G0
      rw [List.length_append, List.length_cons, List.length_map, List.length_take]
      omega
    have lt := list_tup (S := S ++ G0 S.length fl i) (xs := sd r)
    have g0 : (S ++ G0 S.length fl i ++ [Cell.lst (sd r)])[S.length]? = some (.lst (rl S.length (P0 fl i))) := get_old (by rw [get_app0]; rfl)
    have gd : gc (S ++ G0 S.length fl i) (.loc (S ++ G0 S.length fl i).length) (S ++ G0 S.length fl i ++ [Cell.lst (sd r)]) = .ok (.loc (S ++ G0 S.length fl i).length) (S ++ G0 S.length fl i ++ [Cell.lst (sd r)]) := gc_one (by rw [cl_lst]; exact cls_sd _ _)
    have st : (S ++ G0 S.length fl i ++ [Cell.lst (sd r)]).set S.length (.lst (rl S.length (P0 fl i) ++ [.loc (S.length + (i + 1))])) = S ++ G0 S.length fl (i + 1) := by
      rw [List.append_assoc, set_new0]
      unfold G0
      rw [tk, P0_succ, rD]
      unfold rl
      simp
    refine ⟨rfl, _, ?_, rfl⟩
    have tn : turnC F (.bf .list (.cons (.var 7) (.nil))) (.nm 7) .none [some (.loc s), some (.tup (fd fl)), none, none, none, none, none, none] (.tup (sd r)) (S ++ G0 S.length fl i) = .ok (some (.loc (S ++ G0 S.length fl i).length)) (S ++ G0 S.length fl i ++ [Cell.lst (sd r)]) := by
      generalize S ++ G0 S.length fl i ++ [Cell.lst (sd r)] = V at *
      generalize S ++ G0 S.length fl i = U at *
      simp [turnC, bindT, slotsT, wipeE, evC, lt]
    unfold oneC
    rw [tn]
    show (gc _ _ _).bind _ = _
    rw [gd, bind_ok]
    simp only [g0]
    rw [if_pos (by rw [rl_len]; unfold P0; rw [List.length_map, List.length_range, sizeLine_eq]; omega), ul, st]) (fun _ _ => rfl)
  rw [fd_len] at e1
  subst e1
  rw [ev_lc]
  show (loopC .free _ S.length (fd fl) (S ++ [Cell.lst []])).bind _ = _
  rw [e0]
  rfl
theorem rw0 (b : Nat) (fl : List (List Str)) : Rw b (G0 b fl fl.length) 0 (P0 fl fl.length) := by
  refine ⟨rfl, fun p hp => ?_, ?_, fun h => ?_⟩
  · obtain ⟨n, hn, rfl⟩ := List.mem_map.mp hp
    have hn := List.mem_range.mp hn
    unfold G0
    rw [List.getElem?_cons_succ, List.take_length, List.getElem?_map, List.getElem?_eq_getElem hn]
    simp [List.getD, hn]
  · unfold P0
    rw [List.map_map]
    exact map_nodup_on (fun a _ b _ e => by simpa using e) List.nodup_range
  · obtain ⟨p, hp, e⟩ := List.mem_map.mp h
    obtain ⟨n, _, rfl⟩ := List.mem_map.mp hp
    simp at e
theorem changed_fn (h : Γ i__law_changed_2 = some f__law_changed_2) (h4 : Γ i__law_draw = some f__law_draw) (hs : S[s]? = some c0) (hc : SrcC c0 m) (hm : m < 10 ^ 11) (hf : GF B fl) (hB0 : 0 < B) (hB : B ≤ 100) (hne : fl ≠ []) :
    ∃ fl' c', GF (B + 1) fl' ∧ SrcC c' (m + 20) ∧ callN Γ (k + 2) i__law_changed_2 [.loc s, .tup (fd fl)] S = .ok (.tup (fd fl')) (S.set s c') := by
  rw [callN_eq h rfl]
  have slt := (List.getElem?_eq_some_iff.mp hs).1
  have sw : S.set s c0 = S := set_self hs
  have lc := rows_lc (F := callN Γ (k + 1)) (s := s) (S := S) (fl := fl) (fun r hr => by have := hf.wd r hr; omega) (by have := hf.len; omega)
  have v1 : evS (callN Γ (k + 1)) xv1 [some (.loc s), some (.tup (fd fl)), none, none, none, none, none, none] S = .nx [some (.loc s), some (.tup (fd fl)), some (.loc (S.length + 0)), none, none, none, none, none] (S.set s c0 ++ G0 S.length fl fl.length) := by
    rw [xv1, st_asg', lc, sw]
    rfl
  have R0 := rw0 S.length fl
  have pf : GF B ((P0 fl fl.length).map (·.2)) := by rw [P0_rows]; exact hf
  have pl : (P0 fl fl.length).length = fl.length := by unfold P0; rw [List.length_map, List.length_range]
  have fp : 0 < fl.length := List.length_pos_iff.mpr hne
  generalize P0 fl fl.length = P at *
  generalize G0 S.length fl fl.length = G at *
  have fb := hf.len
  obtain ⟨i, c1, i1, hc1, d1⟩ := drwB (k := k) (G := G) h4 hs hc (by omega) (b := fl.length) fp (by omega)
  have gl : (S.set s c0 ++ G)[S.length + 0]? = some (.lst (rl S.length P)) := by rw [B_get]; exact R0.at_
  have le := lenD_loc gl
  rw [rl_len, pl] at le
  have v2 : evS (callN Γ (k + 1)) xv2 [some (.loc s), some (.tup (fd fl)), some (.loc (S.length + 0)), none, none, none, none, none] (S.set s c0 ++ G) = .nx [some (.loc s), some (.tup (fd fl)), some (.loc (S.length + 0)), some (.int (i : Nat)), none, none, none, none] (S.set s c1 ++ G) := by
    generalize S.set s c1 ++ G = V1 at *
    generalize S.set s c0 ++ G = V0 at *
    generalize S.length + 0 = b at *
    generalize callN Γ (k + 1) = F at *
    simp [le, d1]
  obtain ⟨w, c2, w1, hc2, d2⟩ := drwB (k := k) (G := G) h4 hs hc1 (by omega) (b := 9) (by decide) (by decide)
  have d2 : callN Γ (k + 1) i__law_draw [.loc s, .int 9] (S.set s c1 ++ G) = .ok (.int (w : Nat)) (S.set s c2 ++ G) := d2
  have v3 : evS (callN Γ (k + 1)) xv3 [some (.loc s), some (.tup (fd fl)), some (.loc (S.length + 0)), some (.int (i : Nat)), none, none, none, none] (S.set s c1 ++ G) = .nx [some (.loc s), some (.tup (fd fl)), some (.loc (S.length + 0)), some (.int (i : Nat)), some (.int (w : Nat)), none, none, none] (S.set s c2 ++ G) := by
    generalize S.set s c2 ++ G = V2 at *
    generalize S.set s c1 ++ G = V1 at *
    generalize S.length + 0 = b at *
    generalize callN Γ (k + 1) = F at *
    simp [d2]
  obtain ⟨G1, hG1⟩ : ∃ G1, G1 = G ++ [Cell.lst (sd odds)] := ⟨_, rfl⟩
  have R1 : Rw S.length G1 0 P := by rw [hG1]; exact R0.app
  obtain ⟨q, c3, q1, hc3, d3⟩ := drwB (k := k) (G := G1) h4 hs hc2 (by omega) (b := 12) (by decide) (by decide)
  have d3 : callN Γ (k + 1) i__law_draw [.loc s, .int 12] (S.set s c2 ++ G1) = .ok (.int (q : Nat)) (S.set s c3 ++ G1) := d3
  obtain ⟨odd, hodd⟩ : ∃ y, odds[q]? = some y := ⟨_, List.getElem?_eq_getElem (by exact q1)⟩
  have ot := odds_tx odd (List.mem_of_getElem? hodd)
  have v4 : evS (callN Γ (k + 1)) xv4 [some (.loc s), some (.tup (fd fl)), some (.loc (S.length + 0)), some (.int (i : Nat)), some (.int (w : Nat)), none, none, none] (S.set s c2 ++ G) = .nx (kEv s fl (S.length + 0) i w odd none) (S.set s c3 ++ G1) := by
    have nl : newC (.lst (sd odds)) (S.set s c2 ++ G) = .ok (.loc (S.length + G.length)) (S.set s c2 ++ G1) := by
      rw [newc, B_len, B_app, hG1]
    have ge : (S.set s c3 ++ G1)[S.length + G.length]? = some (.lst (sd odds)) := by rw [B_get, hG1, get_app0]; rfl
    have ix : ixD (.loc (S.length + G.length)) (.int (q : Nat)) (S.set s c3 ++ G1) = some (.str odd) := by rw [ix_loc, ge, ixC_lst, ixAt_nat, sd_get hodd]
    have el : evE (callN Γ (k + 1)) (.lst (.cons (.con (.str "")) (.cons (.con (.str "a1")) (.cons (.con (.str "aB")) (.cons (.con (.str "AB")) (.cons (.con (.str "a b")) (.cons (.con (.str "abcdefg")) (.cons (.con (.str "Abcdefg")) (.cons (.con (.str "a\n")) (.cons (.con (.str "-a")) (.cons (.con (.str "zz")) (.cons (.con (.str "Zz")) (.cons (.con (.str "ABCDEF")) (.nil)))))))))))))) [some (.loc s), some (.tup (fd fl)), some (.loc (S.length + 0)), some (.int (i : Nat)), some (.int (w : Nat)), none, none, none] (S.set s c2 ++ G) = .ok (.loc (S.length + G.length)) (S.set s c2 ++ G1) := by
      rw [← nl]
      rfl
    rw [xv4, st_asg', ev_ix, el, bind_ok]
    generalize S.set s c3 ++ G1 = V3 at *
    generalize S.set s c2 ++ G1 = V2 at *
    generalize S.length + G.length = b1 at *
    generalize S.length + 0 = b at *
    generalize callN Γ (k + 1) = F at *
    simp [-ix_loc, d3, ix]
  obtain ⟨p, hp⟩ : ∃ p, P[i]? = some p := ⟨_, List.getElem?_eq_getElem (by rw [pl]; exact i1)⟩
  have pm := List.mem_of_getElem? hp
  -- the change
  have nl5 : newC (.lst []) (S.set s c3 ++ G1) = .ok (.loc (S.length + G1.length)) (S.set s c3 ++ (G1 ++ [Cell.lst []])) := by rw [newc, B_len, B_app]
  have R2 := R1.app (T := [Cell.lst []])
  have gp2 : (S.set s c3 ++ (G1 ++ [Cell.lst []]))[S.length + p.1]? = some (.lst (sd p.2)) := by rw [B_get]; exact R2.row p pm
  have ge2 : (S.set s c3 ++ (G1 ++ [Cell.lst []]))[S.length + G1.length]? = some (.lst []) := by rw [B_get, get_app0]; rfl
  have en := eq_nil gp2 ge2
  have gl1 : (S.set s c3 ++ G1)[S.length + 0]? = some (.lst (rl S.length P)) := by rw [B_get]; exact R1.at_
  have ix5 : ixD (.loc (S.length + 0)) (.int (i : Nat)) (S.set s c3 ++ G1) = some (.loc (S.length + p.1)) := by rw [ix_loc, gl1, ixC_lst, ixAt_nat, rl_get hp]
  have ce : evE (callN Γ (k + 1)) (.cmp .Eq xwr (.lst (.nil))) (kEv s fl (S.length + 0) i w odd none) (S.set s c3 ++ G1) = .ok (.bl (decide (p.2 = []))) (S.set s c3 ++ (G1 ++ [Cell.lst []])) := by
    generalize S.set s c3 ++ (G1 ++ [Cell.lst []]) = V4 at *
    generalize S.set s c3 ++ G1 = V3 at *
    generalize S.length + 0 = b at *
    generalize callN Γ (k + 1) = F at *
    simp [-newc, -ix_loc, nl5, ix5, en]
  have lt4 : ∀ T, evE (callN Γ (k + 1)) (.cmp .Lt (.var 4) (.con (.int 3))) (kEv s fl (S.length + 0) i w odd none) T = .ok (.bl (decide ((w : Int) < 3))) T := fun T => rfl
  have eq4 : ∀ (z : Int) T, evE (callN Γ (k + 1)) (.cmp .Eq (.var 4) (.con (.int z))) (kEv s fl (S.length + 0) i w odd none) T = .ok (.bl (decide ((w : Int) = z))) T := fun z T => by
    rw [ev_cmp, show evE (callN Γ (k + 1)) (.var 4) (kEv s fl (S.length + 0) i w odd none) T = .ok (.int (w : Nat)) T from rfl, bind_ok, ev_con, bind_ok, eq_int]
    rfl
  have ch : Chg Γ k S s (m + 20) (B + 1) 0 i w fl odd (evS (callN Γ (k + 1)) xv5 (kEv s fl (S.length + 0) i w odd none) (S.set s c3 ++ G1)) := by
    have ife5 : evS (callN Γ (k + 1)) xv5 (kEv s fl (S.length + 0) i w odd none) (S.set s c3 ++ G1) = if decide (p.2 = []) = true then evSs (callN Γ (k + 1)) xw0 (kEv s fl (S.length + 0) i w odd none) (S.set s c3 ++ (G1 ++ [Cell.lst []])) else evSs (callN Γ (k + 1)) (.cons xv5b (.nil)) (kEv s fl (S.length + 0) i w odd none) (S.set s c3 ++ (G1 ++ [Cell.lst []])) := by
      rw [xv5, st_ife, ce]
      rfl
    have mono : ∀ {o : OutS} {m' : Nat}, m' ≤ m + 20 → Chg Γ k S s m' (B + 1) 0 i w fl odd o → Chg Γ k S s (m + 20) (B + 1) 0 i w fl odd o := fun hle ⟨c', G', P', o6', a1, a2, a3, a4⟩ => ⟨c', G', P', o6', a1.mono hle, a2, a3, a4⟩
    have one : ∀ (st : IS) (T : Store), evSs (callN Γ (k + 1)) (.cons st .nil) (kEv s fl (S.length + 0) i w odd none) T = evS (callN Γ (k + 1)) st (kEv s fl (S.length + 0) i w odd none) T := fun st T => by
      rw [evss_cons]
      cases evS (callN Γ (k + 1)) st (kEv s fl (S.length + 0) i w odd none) T <;> rfl
    rw [ife5]
    by_cases e0 : p.2 = []
    · rw [if_pos (decide_eq_true e0)]
      exact mono (by omega) (chg0 hc3 R2 pf hB0 hp ot)
    · rw [if_neg (by rw [decide_eq_false e0]; exact Bool.false_ne_true), one]
      by_cases a3 : (w : Int) < 3
      · rw [xv5b, ife_t (by rw [lt4, decide_eq_true a3])]
        exact mono (by omega) (chg1 h4 hs hc3 (by omega) R2 pf (by omega) hp e0 ot)
      rw [xv5b, ife_f (by rw [lt4, decide_eq_false a3]), one]
      by_cases a4 : (w : Int) = 3
      · rw [xv5c, ife_t (by rw [eq4, decide_eq_true a4])]
        exact mono (by omega) (chg3 h4 hs hc3 (by omega) R2 pf (by omega) hp e0)
      rw [xv5c, ife_f (by rw [eq4, decide_eq_false a4]), one]
      by_cases a5 : (w : Int) = 4
      · rw [xv5d, ife_t (by rw [eq4, decide_eq_true a5])]
        exact mono (by omega) (chg4 h4 hs hc3 (by omega) R2 pf (by omega) hp e0)
      rw [xv5d, ife_f (by rw [eq4, decide_eq_false a5]), one]
      by_cases a6 : (w : Int) = 5
      · rw [xv5e, ife_t (by rw [eq4, decide_eq_true a6])]
        exact mono (by omega) (chg5 h4 hs hc3 (by omega) R2 pf (by omega) hp ot)
      rw [xv5e, ife_f (by rw [eq4, decide_eq_false a6]), one]
      by_cases a7 : (w : Int) = 6
      · rw [xv5f, ife_t (by rw [eq4, decide_eq_true a7])]
        exact mono (by omega) (chg6 hc3 R2 pf (by omega) hp)
      rw [xv5f, ife_f (by rw [eq4, decide_eq_false a7]), one]
      by_cases a8 : (w : Int) = 7
      · rw [xv5g, ife_t (by rw [eq4, decide_eq_true a8])]
        exact mono (by omega) (chg7 hc3 R2 pf (by omega) hp)
      rw [xv5g, ife_f (by rw [eq4, decide_eq_false a8])]
      exact mono (by omega) (chg8 hc3 R2 pf hB hp ot)
  obtain ⟨c', G', P', o6', hc', R', F', e5⟩ := ch
  refine ⟨P'.map (·.2), c', F', hc', ?_⟩
  -- the new floor
  have gl' : (S.set s c' ++ G')[S.length + 0]? = some (.lst (rl S.length P')) := by rw [B_get]; exact R'.at_
  have gl' : (S.set s c' ++ G')[S.length + 0]? = some (.lst (P'.map fun p => D.loc (S.length + p.1))) := gl'
  obtain ⟨src, ei, hsr⟩ := SeqAt.evi (F := callN Γ (k + 1)) (S := S.set s c' ++ G') (d := .loc (S.length + 0)) (ds := P'.map fun p => D.loc (S.length + p.1)) (.inr ⟨_, rfl, gl'⟩) (e := .var 2) (ρ := kEv s fl (S.length + 0) i w odd o6') (S0 := S.set s c' ++ G') rfl
  have pl' := F'.len
  rw [List.length_map] at pl'
  have lc2 := lcM (l := P') (enc := fun p : Nat × List Str => D.loc (S.length + p.1)) (e := .bf .tuple (.cons (.var 7) (.nil))) (t := .nm 7) (fun p => rowT p.2) ei (by omega) hsr (fun p hp acc => ⟨[], by
    rw [List.append_nil]
    have tl := tup_loc (S := S.set s c' ++ G' ++ [Cell.lst acc]) (n := S.length + p.1) (xs := sd p.2) (get_old (by rw [B_get]; exact R'.row p hp))
    generalize S.set s c' ++ G' ++ [Cell.lst acc] = V at *
    generalize callN Γ (k + 1) = F at *
    simp [turnC, bindT, slotsT, wipeE, evC, tl, rowT]⟩) (fun p _ n => by unfold rowT; rw [cl_tup]; exact cls_sd _ _)
  have e1 : P'.map (fun p => rowT p.2) = fd (P'.map (·.2)) := by unfold fd; rw [List.map_map]; rfl
  rw [e1] at lc2
  have tl := tup_loc (S := S.set s c' ++ G' ++ [Cell.lst (fd (P'.map (·.2)))]) (n := (S.set s c' ++ G').length) (xs := fd (P'.map (·.2))) (by rw [get_app0]; rfl)
  have gd : gc S (.tup (fd (P'.map (·.2)))) (S.set s c' ++ G' ++ [Cell.lst (fd (P'.map (·.2)))]) = .ok (.tup (fd (P'.map (·.2)))) (S.set s c') := by
    rw [List.append_assoc]
    exact gc_src hc' (by rw [cl_tup]; exact cls_fd _ _)
  show gcO S (bodyO (evSs (callN Γ (k + 1)) (.cons xv1 (.cons xv2 (.cons xv3 (.cons xv4 (.cons xv5 (.cons xv6 (.nil))))))) [some (.loc s), some (.tup (fd fl)), none, none, none, none, none, none] S)) = _
  rw [evss_nx v1, evss_nx v2, evss_nx v3, evss_nx v4, evss_nx e5]
  generalize fd (P'.map (·.2)) = X at *
  generalize S.set s c' ++ G' ++ [Cell.lst X] = V7 at *
  generalize (S.set s c' ++ G').length = n6 at *
  generalize S.set s c' ++ G' = V6 at *
  generalize S.length + 0 = b0 at *
  generalize callN Γ (k + 1) = F at *
  simp [lc2, tl, gd]
end
end Iv

set_option maxRecDepth 100000
namespace Iv
open PySem
structure Gam3 (Γ : Nat → Option FDef) : Prop where
  gis_name : Γ i_is_name = some f_is_name
  gcheck_floor_2 : Γ i_check_floor_2 = some f_check_floor_2
  glocate_2 : Γ i_locate_2 = some f_locate_2
  g_law_source : Γ i__law_source = some f__law_source
  g_law_draw : Γ i__law_draw = some f__law_draw
  g_law_shuffled : Γ i__law_shuffled = some f__law_shuffled
  g_law_name : Γ i__law_name = some f__law_name
  g_law_pattern : Γ i__law_pattern = some f__law_pattern
  g_law_named : Γ i__law_named = some f__law_named
  g_law_floor : Γ i__law_floor = some f__law_floor
  g_law_is_name : Γ i__law_is_name = some f__law_is_name
  g_law_wrong_2 : Γ i__law_wrong_2 = some f__law_wrong_2
  g_law_changed_2 : Γ i__law_changed_2 = some f__law_changed_2
  g_law_right : Γ i__law_right = some f__law_right
  g_law_unknown : Γ i__law_unknown = some f__law_unknown
  glaw_37 : Γ i_law_37 = some f_law_37
abbrev xk1 : IS := .asg (.nm 3) (.call i__law_source (.cons (.var 0) (.cons (.var 2) (.nil))))
abbrev xk2 : IS := .asg (.nm 4) (.call i__law_floor (.cons (.var 3) (.cons (.con (.int 144)) (.nil))))
abbrev xk3 : IS := .asg (.nm 5) (.call i__law_changed_2 (.cons (.var 3) (.cons (.var 4) (.nil))))
abbrev xk4 : IS := .asg (.nm 6) (.lst (.cons (.var 4) (.cons (.var 5) (.cons (.tup (.nil)) (.cons (.tup (.cons (.tup (.nil)) (.nil))) (.cons (.tup (.cons (.tup (.nil)) (.cons (.tup (.cons (.con (.str "a")) (.nil))) (.nil)))) (.cons (.bin .Add (.var 5) (.tup (.cons (.tup (.nil)) (.nil)))) (.nil))))))))
abbrev xk5 : IS := .ife (.cmp .NotEq (.var 5) (.tup (.nil))) (.cons (.expr (.bm .append (.var 6) (.cons (.call i__law_changed_2 (.cons (.var 3) (.cons (.var 5) (.nil)))) (.nil)))) (.nil)) (.nil)
abbrev xk6 : IS := .asg (.nm 7) (.bf .tuple (.cons (.lc (.ix (.var 1) (.var 11)) (.nm 11) (.range (.cons (.bin .Add (.con (.int 12)) (.call i__law_draw (.cons (.var 3) (.cons (.con (.int 3)) (.nil))))) (.nil))) (.none)) (.nil)))
abbrev xk7L : IE := .lst (.cons (.tup (.cons (.var 7) (.nil))) (.cons (.bf .tuple (.cons (.lc (.tup (.cons (.var 9) (.nil))) (.nm 9) (.val (.var 7)) (.none)) (.nil))) (.cons (.tup (.cons (.var 7) (.cons (.var 7) (.nil)))) (.cons (.bin .Add (.tup (.cons (.tup (.cons (.con (.str "z")) (.nil))) (.nil))) (.var 4)) (.nil)))))
abbrev xk7 : IS := .asg (.nm 6) (.bin .Add (.var 6) xk7L)
abbrev xk8B : ISs := .cons (.ife (.or (.not (.call i__law_right (.cons (.var 8) (.nil)))) (.one (.not (.call i__law_right (.cons (.var 8) (.nil)))))) (.cons (.ret (.some (.con (.bl false)))) (.nil)) (.nil)) (.nil)
abbrev xk8 : IS := .for_ (.nm 8) (.val (.var 6)) xk8B
abbrev xk9 : IS := .ife (.or (.cmp .NotEq (.call i__law_unknown (.cons (.var 4) (.cons (.con (.str "zzzzzz")) (.nil)))) (.con (.str "zzzzzz"))) (.one (.cmp .NotEq (.call i__law_unknown (.cons (.var 4) (.cons (.con (.str "")) (.nil)))) (.con (.str ""))))) (.cons (.ret (.some (.con (.bl false)))) (.nil)) (.nil)
abbrev xk10E : IE := .bin .Add (.ix (.lst (.cons (.bm .lower (.ix (.var 9) (.con (.int 0))) (.nil)) (.cons (.bm .upper (.ix (.var 9) (.con (.int 0))) (.nil)) (.nil)))) (.bf .int (.cons (.cmp .Eq (.bm .lower (.ix (.var 9) (.con (.int 0))) (.nil)) (.ix (.var 9) (.con (.int 0)))) (.nil)))) (.slc (.var 9) (.some (.con (.int 1))) (.none))
abbrev xk10a : IS := .asg (.nm 10) xk10E
abbrev xk10b : IS := .ife (.cmp .NotEq (.call i__law_unknown (.cons (.var 4) (.cons (.var 10) (.nil)))) (.var 10)) (.cons (.ret (.some (.con (.bl false)))) (.nil)) (.nil)
abbrev xk10 : IS := .for_ (.nm 9) (.val (.ix (.var 4) (.con (.int 0)))) (.cons xk10a (.cons xk10b (.nil)))
abbrev nEv3 (d0 : D) (o2 : Option D) (s : Nat) (fl : List (List Str)) (o5 o6 o7 o8 o9 o10 o11 : Option D) : Env := [some d0, some (.str "abcdefghijklmnopqrstuvwxyz"), o2, some (.loc s), some (.tup (fd fl)), o5, o6, o7, o8, o9, o10, o11]
def tupF (g : List (List Str)) : D := .tup (fd g)
def tfs (gs : List (List (List Str))) : List D := gs.map tupF
theorem ne_src2 {U : Store} {s n m : Nat} {c : Cell} {gs : List (List (List Str))} (hs : U[s]? = some c) (hc : SrcC c m) (hn : U[n]? = some (.lst (tfs gs))) : s ≠ n := by
  intro e
  subst e
  obtain ⟨x, y, z, rfl, _⟩ := hc
  rw [hs] at hn
  have h : [D.int x, D.int y, D.int z] = tfs gs := Cell.lst.inj (Option.some.inj hn)
  cases gs with
  | nil => cases h
  | cons a l =>
    have h : D.int x :: [D.int y, D.int z] = tupF a :: tfs l := h
    have := (List.cons.inj h).1
    cases this
theorem ne_tup0 {on : List (List Str)} {S : Store} : cmpD .NotEq (.tup (fd on)) (.tup []) S = some (!decide (on = [])) := by
  show (eqD (.tup (fd on)) (.tup []) S).map not = _
  have e : toPy S 8 (.tup (fd on)) = some (.tuple (on.map fun r => PyData.tuple (r.map PyData.str))) := by
    show (mapO (toPy S 7) (fd on)).map PyData.tuple = _
    have : ∀ fl : List (List Str), mapO (toPy S 7) (fd fl) = some (fl.map fun r => PyData.tuple (r.map PyData.str)) := fun fl => by
      induction fl with
      | nil => rfl
      | cons r fl ih =>
        have e : toPy S 7 (.tup (sd r)) = some (.tuple (r.map PyData.str)) := by
          show (mapO (toPy S 6) (sd r)).map PyData.tuple = _
          rw [mapO_sd]
          rfl
        show mapO (toPy S 7) (.tup (sd r) :: fd fl) = _
        simp only [mapO, e, ih]
        rfl
    rw [this]
    rfl
  unfold eqD
  rw [e]
  cases on <;> rfl
theorem add_tup {xs ys : List D} {S : Store} (h : xs.length + ys.length ≤ 10000) : opD .Add (.tup xs) (.tup ys) S = .ok (.tup (xs ++ ys)) S := by
  show (if Operator.Add = .Add ∧ xs.length + ys.length ≤ sizeLine then Out.ok (D.tup (xs ++ ys)) S else .bad) = _
  rw [if_pos ⟨rfl, by rw [sizeLine_eq]; omega⟩]
theorem add_str' {a b : Str} {S : Store} (h : a.length + b.length ≤ 1000) : opD .Add (.str a) (.str b) S = .ok (.str (a ++ b)) S := by
  show (if Operator.Add = .Add ∧ a.length + b.length ≤ sizeLine then Out.ok (D.str (a ++ b)) S else .bad) = _
  rw [if_pos ⟨rfl, by rw [sizeLine_eq]; omega⟩]
theorem GF.mono {B B' : Nat} {fl : List (List Str)} (h : GF B fl) (e : B ≤ B') : GF B' fl := ⟨Nat.le_trans h.len e, fun r hr => Nat.le_trans (h.wd r hr) e, h.tx⟩
theorem gf_snoc {B : Nat} {fl : List (List Str)} (h : GF B fl) {r : List Str} (hr : GR (B + 1) r) : GF (B + 1) (fl ++ [r]) := by
  refine .of ?_ fun t ht => ?_
  · rw [List.length_append, List.length_singleton]
    have := h.len
    omega
  · rcases List.mem_append.mp ht with ht | ht
    · exact (h.gr ht).mono (by omega)
    · rw [List.mem_singleton.mp ht]
      exact hr
theorem gf_cons {B : Nat} {fl : List (List Str)} (h : GF B fl) {r : List Str} (hr : GR (B + 1) r) : GF (B + 1) (r :: fl) := by
  refine .of ?_ fun t ht => ?_
  · rw [List.length_cons]
    have := h.len
    omega
  · rcases List.mem_cons.mp ht with ht | ht
    · rw [ht]
      exact hr
    · exact (h.gr ht).mono (by omega)
theorem FlOk.gf {R C : Nat} {fl : List (List Str)} (h : FlOk R C fl) : GF 12 fl := ⟨by rw [h.len]; have := h.r1; omega, fun r hr => by rw [h.wd r hr]; have := h.c1; omega, fun r hr x hx => (h.nm x (List.mem_flatten.mpr ⟨r, hr, hx⟩)).tx⟩
theorem a_tx : Tx "a" := tx_of (by decide +kernel)
theorem z_tx : Tx "z" := tx_of (by decide +kernel)
section
variable {Γ : Nat → Option FDef} {fl on : List (List Str)} {d0 : D} {o2 o5 o6 o7 o8 o9 o10 o11 : Option D} {s m n : Nat} {c : Cell} {U : Store} {gs : List (List (List Str))}
theorem k3_ok (g : Gam3 Γ) (hs : U[s]? = some c) (hc : SrcC c m) (hm : m < 10 ^ 10) (hf : GF 12 fl) (hne : fl ≠ []) :
    ∃ on c', GF 13 on ∧ SrcC c' (m + 20) ∧ (U.set s c')[s]? = some c' ∧ evS (callN Γ 19) xk3 (nEv3 d0 o2 s fl o5 o6 o7 o8 o9 o10 o11) U = .nx (nEv3 d0 o2 s fl (some (.tup (fd on))) o6 o7 o8 o9 o10 o11) (U.set s c') := by
  obtain ⟨on, c', h1, h2, h3⟩ := changed_fn (k := 17) g.g_law_changed_2 g.g_law_draw hs hc (by omega) hf (by decide) (by decide) hne
  have h3 : callN Γ 19 i__law_changed_2 [.loc s, .tup (fd fl)] U = _ := h3
  refine ⟨on, c', h1, h2, set_get (List.getElem?_eq_some_iff.mp hs).1, ?_⟩
  generalize U.set s c' = V at *
  generalize callN Γ 19 = F at *
  simp [h3]
theorem k4_ok (ho : on.length < 100) : evS (callN Γ 19) xk4 (nEv3 d0 o2 s fl (some (.tup (fd on))) o6 o7 o8 o9 o10 o11) U = .nx (nEv3 d0 o2 s fl (some (.tup (fd on))) (some (.loc U.length)) o7 o8 o9 o10 o11) (U ++ [Cell.lst (tfs [fl, on, [], [[]], [[], ["a"]], on ++ [[]]])]) := by
  have ad := add_tup (S := U) (xs := fd on) (ys := [.tup []]) (by rw [fd_len, List.length_singleton]; omega)
  have e : fd on ++ [.tup []] = fd (on ++ [[]]) := by unfold fd; rw [List.map_append]; rfl
  rw [e] at ad
  have el : evE (callN Γ 19) (.lst (.cons (.var 4) (.cons (.var 5) (.cons (.tup (.nil)) (.cons (.tup (.cons (.tup (.nil)) (.nil))) (.cons (.tup (.cons (.tup (.nil)) (.cons (.tup (.cons (.con (.str "a")) (.nil))) (.nil)))) (.cons (.bin .Add (.var 5) (.tup (.cons (.tup (.nil)) (.nil)))) (.nil)))))))) (nEv3 d0 o2 s fl (some (.tup (fd on))) o6 o7 o8 o9 o10 o11) U = newC (.lst (tfs [fl, on, [], [[]], [[], ["a"]], on ++ [[]]])) U := by
    have e3 : tfs [fl, on, [], [[]], [[], ["a"]], on ++ [[]]] = [.tup (fd fl), .tup (fd on), .tup [], .tup [.tup []], .tup [.tup [], .tup [.str "a"]], .tup (fd (on ++ [[]]))] := rfl
    rw [e3]
    generalize fd (on ++ [[]]) = Z at *
    generalize callN Γ 19 = F at *
    simp [-newc, ad]
  rw [xk4, st_asg', el, newc]
  rfl
theorem k5_ok (g : Gam3 Γ) (hs : U[s]? = some c) (hc : SrcC c m) (hm : m < 10 ^ 10) (ho : GF 13 on) (hn : U[n]? = some (.lst (tfs gs))) (hg : ∀ x ∈ gs, GF 20 x) (hl : gs.length < 100) :
    ∃ gs' c' U', (∀ x ∈ gs', GF 20 x) ∧ gs'.length < 101 ∧ SrcC c' (m + 20) ∧ U'[s]? = some c' ∧ U'[n]? = some (.lst (tfs gs')) ∧ evS (callN Γ 19) xk5 (nEv3 d0 o2 s fl (some (.tup (fd on))) (some (.loc n)) o7 o8 o9 o10 o11) U = .nx (nEv3 d0 o2 s fl (some (.tup (fd on))) (some (.loc n)) o7 o8 o9 o10 o11) U' := by
  have nt := ne_tup0 (on := on) (S := U)
  by_cases e : on = []
  · rw [decide_eq_true e] at nt
    refine ⟨gs, c, U, hg, by omega, hc.mono (by omega), hs, hn, ?_⟩
    generalize callN Γ 19 = F at *
    simp [nt, tru]
  · rw [decide_eq_false e] at nt
    obtain ⟨on2, c', h1, h2, h3⟩ := changed_fn (k := 17) g.g_law_changed_2 g.g_law_draw hs hc (by omega) ho (by decide) (by decide) e
    have h3 : callN Γ 19 i__law_changed_2 [.loc s, .tup (fd on)] U = _ := h3
    have ns := ne_src2 hs hc hn
    have slt := (List.getElem?_eq_some_iff.mp hs).1
    have nlt := (List.getElem?_eq_some_iff.mp hn).1
    have hn' : (U.set s c')[n]? = some (.lst (tfs gs)) := by rw [set_get' ns]; exact hn
    have ap := appD_ok (d := tupF on2) hn' (by unfold tfs; rw [List.length_map, sizeLine_eq]; omega)
    have e2 : tfs gs ++ [tupF on2] = tfs (gs ++ [on2]) := by unfold tfs; rw [List.map_append]; rfl
    rw [e2] at ap
    have bk := appK_ok hn
    refine ⟨gs ++ [on2], c', (U.set s c').set n (.lst (tfs (gs ++ [on2]))), fun x hx => ?_, by rw [List.length_append, List.length_singleton]; omega, h2, ?_, ?_, ?_⟩
    · rcases List.mem_append.mp hx with hx | hx
      · exact hg x hx
      · rw [List.mem_singleton.mp hx]
        exact h1.mono (by omega)
    · rw [set_get' (Ne.symm ns)]
      exact set_get slt
    · exact set_get (by rw [List.length_set]; exact nlt)
    · have ap : bmD .append (.loc n) [.tup (fd on2)] (U.set s c') = _ := ap
      generalize (U.set s c').set n (.lst (tfs (gs ++ [on2]))) = V2 at *
      generalize U.set s c' = V at *
      generalize callN Γ 19 = F at *
      simp [nt, tru, bk, h3, ap]
def wideL (n : Nat) : List Str := (List.range n).map fun i => cS [97 + i]
theorem wide_tx {n : Nat} (h : n ≤ 20) : ∀ x ∈ wideL n, Tx x := fun x hx => by
  obtain ⟨i, hi, rfl⟩ := List.mem_map.mp hx
  have := List.mem_range.mp hi
  refine ⟨[97 + i], rfl, by simp, fun c hc => ?_⟩
  rw [List.mem_singleton.mp hc]
  omega
theorem wide_len (n : Nat) : (wideL n).length = n := by unfold wideL; rw [List.length_map, List.length_range]
theorem k6_ok (g : Gam3 Γ) (hs : U[s]? = some c) (hc : SrcC c m) (hm : m < 10 ^ 10) (hn : U[n]? = some (.lst (tfs gs))) :
    ∃ q U', q < 15 ∧ U'[n]? = some (.lst (tfs gs)) ∧ evS (callN Γ 19) xk6 (nEv3 d0 o2 s fl o5 o6 o7 o8 o9 o10 o11) U = .nx (nEv3 d0 o2 s fl o5 o6 (some (.tup (sd (wideL q)))) o8 o9 o10 o11) U' := by
  obtain ⟨r, c', h1, h2, h3⟩ := draw_ok (k := 18) g.g_law_draw hs hc (by omega) (b := 3) (by decide) (by decide)
  have h3 : callN Γ 19 i__law_draw [.loc s, .int 3] U = .ok (.int (r : Nat)) (U.set s c') := h3
  have hn' : (U.set s c')[n]? = some (.lst (tfs gs)) := by rw [set_get' (ne_src2 hs hc hn)]; exact hn
  generalize U.set s c' = V at *
  have er := range_n (n := 12 + r) (by omega)
  have ei : evI (callN Γ 19) (.range (.cons (.bin .Add (.con (.int 12)) (.call i__law_draw (.cons (.var 3) (.cons (.con (.int 3)) (.nil))))) (.nil))) (nEv3 d0 o2 s fl o5 o6 o7 o8 o9 o10 o11) U = .ok ((List.range (12 + r)).map fun i : Nat => D.int i, .free) V := by
    rw [← rng0]
    have er : rangeOf [.int (12 + (r : Int))] = some (rangeL 0 (12 + r)) := by
      rw [show (12 : Int) + r = ((12 + r : Nat) : Int) from by omega]
      exact er
    generalize callN Γ 19 = F at *
    simp [h3, er]
  have lc := lcM (F := callN Γ 19) (l := List.range (12 + r)) (enc := fun i : Nat => D.int i) (t := .nm 11) (e := .ix (.var 1) (.var 11)) (fun i => .str (cS [97 + i])) ei (by rw [List.length_range]; omega) (fun _ => rfl) (fun i hi acc => ⟨[], by
    have hi := List.mem_range.mp hi
    have ixa : ∀ (S : Store), ixD (.str "abcdefghijklmnopqrstuvwxyz") (.int (i : Nat)) S = some (.str (cS [97 + i])) := fun S => by
      rw [abc_eq, ix_cS (by decide), ixAt_nat, abc_get (by omega)]
      rfl
    rw [List.append_nil]
    have ixa := ixa (V ++ [Cell.lst acc])
    generalize V ++ [Cell.lst acc] = W at *
    generalize callN Γ 19 = F at *
    simp [turnC, bindT, slotsT, wipeE, evC, ixa]⟩) (fun _ _ _ => rfl)
  have e1 : (List.range (12 + r)).map (fun i => D.str (cS [97 + i])) = sd (wideL (12 + r)) := by
    unfold sd wideL
    rw [List.map_map]
    rfl
  rw [e1] at lc
  have tl := tup_loc (S := V ++ [Cell.lst (sd (wideL (12 + r)))]) (n := V.length) (xs := sd (wideL (12 + r))) (by rw [get_app0]; rfl)
  refine ⟨12 + r, V ++ [Cell.lst (sd (wideL (12 + r)))], by omega, get_old hn', ?_⟩
  generalize wideL (12 + r) = wl at *
  generalize V ++ [Cell.lst (sd wl)] = V2 at *
  generalize callN Γ 19 = F at *
  simp [lc, tl]
theorem k7_ok {wd : List Str} (hw : wd.length < 100) (hfl : fl.length < 100) (hn : U[n]? = some (.lst (tfs gs))) (hl : gs.length < 1000) :
    ∃ n' U', U'[n']? = some (.lst (tfs (gs ++ [[wd], wd.map fun x => [x], [wd, wd], ["z"] :: fl]))) ∧ evS (callN Γ 19) xk7 (nEv3 d0 o2 s fl o5 (some (.loc n)) (some (.tup (sd wd))) o8 o9 o10 o11) U = .nx (nEv3 d0 o2 s fl o5 (some (.loc n')) (some (.tup (sd wd))) o8 o9 o10 o11) U' := by
  have lc := lcM (F := callN Γ 19) (S := U) (S1 := U) (src := .free) (l := wd) (enc := D.str) (it := .val (.var 7)) (ρ := nEv3 d0 o2 s fl o5 (some (.loc n)) (some (.tup (sd wd))) o8 o9 o10 o11) (t := .nm 9) (e := .tup (.cons (.var 9) (.nil))) (fun x => rowT [x]) rfl (by omega) (fun _ => rfl) (fun x hx acc => ⟨[], by
    rw [List.append_nil]
    generalize U ++ [Cell.lst acc] = W at *
    generalize callN Γ 19 = F at *
    simp [turnC, bindT, slotsT, wipeE, evC, rowT, sd]⟩) (fun _ _ _ => rfl)
  have e1 : wd.map (fun x => rowT [x]) = fd (wd.map fun x => [x]) := by
    unfold fd
    rw [List.map_map]
    rfl
  rw [e1] at lc
  have tl := tup_loc (S := U ++ [Cell.lst (fd (wd.map fun x => [x]))]) (n := U.length) (xs := fd (wd.map fun x => [x])) (by rw [get_app0]; rfl)
  have hn1 := get_old (T := [Cell.lst (fd (wd.map fun x => [x]))]) hn
  obtain ⟨V, hV⟩ : ∃ V, V = U ++ [Cell.lst (fd (wd.map fun x => [x]))] := ⟨_, rfl⟩
  rw [← hV] at lc tl hn1
  have ad := add_tup (S := V) (xs := [.tup [.str "z"]]) (ys := fd fl) (by rw [fd_len, List.length_singleton]; omega)
  have e2 : [D.tup [.str "z"]] ++ fd fl = fd (["z"] :: fl) := rfl
  rw [e2] at ad
  have el : evE (callN Γ 19) xk7L (nEv3 d0 o2 s fl o5 (some (.loc n)) (some (.tup (sd wd))) o8 o9 o10 o11) U = newC (.lst (tfs [[wd], wd.map fun x => [x], [wd, wd], ["z"] :: fl])) V := by
    have e3 : tfs [[wd], wd.map fun x => [x], [wd, wd], ["z"] :: fl] = [.tup [.tup (sd wd)], .tup (fd (wd.map fun x => [x])), .tup [.tup (sd wd), .tup (sd wd)], .tup (fd (["z"] :: fl))] := rfl
    rw [e3]
    generalize fd (["z"] :: fl) = Z at *
    generalize fd (wd.map fun x => [x]) = Y at *
    generalize callN Γ 19 = F at *
    simp [-newc, lc, tl, ad]
  have hn2 := get_old (T := [Cell.lst (tfs [[wd], wd.map fun x => [x], [wd, wd], ["z"] :: fl])]) hn1
  have ad2 := add_loc hn2 (by rw [get_app0]; rfl : (V ++ [Cell.lst (tfs [[wd], wd.map fun x => [x], [wd, wd], ["z"] :: fl])])[V.length]? = some (.lst (tfs [[wd], wd.map fun x => [x], [wd, wd], ["z"] :: fl]))) (by unfold tfs; rw [List.length_map, List.length_map]; simp only [List.length_cons, List.length_nil]; omega)
  have e4 : tfs gs ++ tfs [[wd], wd.map fun x => [x], [wd, wd], ["z"] :: fl] = tfs (gs ++ [[wd], wd.map fun x => [x], [wd, wd], ["z"] :: fl]) := by unfold tfs; rw [← List.map_append]
  rw [e4] at ad2
  refine ⟨_, _, (by rw [get_app0]; rfl : (V ++ [Cell.lst (tfs [[wd], wd.map fun x => [x], [wd, wd], ["z"] :: fl])] ++ [Cell.lst (tfs (gs ++ [[wd], wd.map fun x => [x], [wd, wd], ["z"] :: fl]))])[(V ++ [Cell.lst (tfs [[wd], wd.map fun x => [x], [wd, wd], ["z"] :: fl])]).length]? = _), ?_⟩
  have v6 : evE (callN Γ 19) (.var 6) (nEv3 d0 o2 s fl o5 (some (.loc n)) (some (.tup (sd wd))) o8 o9 o10 o11) U = .ok (.loc n) U := rfl
  rw [xk7, st_asg', ev_bin, v6, bind_ok, el, newc, bind_ok, ad2]
  rfl
theorem k8_ok (g : Gam3 Γ) (hn : U[n]? = some (.lst (tfs gs))) (hg : ∀ x ∈ gs, GF 20 x) :
    ∃ o8', evS (callN Γ 19) xk8 (nEv3 d0 o2 s fl o5 (some (.loc n)) o7 o8 o9 o10 o11) U = .nx (nEv3 d0 o2 s fl o5 (some (.loc n)) o7 o8' o9 o10 o11) U := by
  obtain ⟨src, ei, hs⟩ := SeqAt.evi (F := callN Γ 19) (S := U) (d := .loc n) (ds := tfs gs) (.inr ⟨n, rfl, hn⟩) (e := .var 6) (ρ := nEv3 d0 o2 s fl o5 (some (.loc n)) o7 o8 o9 o10 o11) (S0 := U) rfl
  have hs := hs []
  rw [List.append_nil] at hs
  obtain ⟨ρ', S', e0, o8', e1, e2⟩ := loopF_all (src := src) (f := fun x ρ S => (asgT (callN Γ 19) (.nm 8) x ρ S).bindS fun ρ' S' => evSs (callN Γ 19) xk8B ρ' S') (xs := tfs gs) (ρ := nEv3 d0 o2 s fl o5 (some (.loc n)) o7 o8 o9 o10 o11) (S := U)
    (fun i ρ S' => ∃ o8, ρ = nEv3 d0 o2 s fl o5 (some (.loc n)) o7 o8 o9 o10 o11 ∧ S' = U) ⟨o8, rfl, rfl⟩ (fun i y ρ S' ⟨o8, e1, e2⟩ hi => by
      subst e1 e2
      unfold tfs at hi
      rw [List.getElem?_map] at hi
      obtain ⟨x, hx, rfl⟩ := Option.map_eq_some_iff.mp hi
      have rt : callN Γ 19 i__law_right [tupF x] S' = .ok (.bl true) S' := right_fn (k := 16) g.g_law_right g.g_law_wrong_2 g.g_law_is_name g.gcheck_floor_2 g.gis_name (hg x (List.mem_of_getElem? hx)) (by decide)
      refine ⟨hs, nEv3 d0 o2 s fl o5 (some (.loc n)) o7 (some (tupF x)) o9 o10 o11, S', .inl ?_, _, rfl, rfl⟩
      have q0 : asgT (callN Γ 19) (.nm 8) (tupF x) (nEv3 d0 o2 s fl o5 (some (.loc n)) o7 o8 o9 o10 o11) S' = .ok (nEv3 d0 o2 s fl o5 (some (.loc n)) o7 (some (tupF x)) o9 o10 o11) S' := rfl
      rw [q0, bindS_ok]
      generalize tupF x = X at *
      generalize callN Γ 19 = F at *
      simp [rt, tru]) (fun ρ S' ⟨_, _, e2⟩ => by subst e2; exact hs)
  subst e1 e2
  refine ⟨o8', ?_⟩
  rw [xk8, st_for', ei]
  exact e0
theorem k9_ok (g : Gam3 Γ) (hz : ("zzzzzz" : Str) ∉ fl.flatten) (he : ("" : Str) ∉ fl.flatten) : evS (callN Γ 19) xk9 (nEv3 d0 o2 s fl o5 o6 o7 o8 o9 o10 o11) U = .nx (nEv3 d0 o2 s fl o5 o6 o7 o8 o9 o10 o11) U := by
  have u1 : callN Γ 19 i__law_unknown [.tup (fd fl), .str "zzzzzz"] U = .ok (.str "zzzzzz") U := unk_fn (k := 17) g.g_law_unknown g.glocate_2 hz (by decide +kernel)
  have u2 : callN Γ 19 i__law_unknown [.tup (fd fl), .str ""] U = .ok (.str "") U := unk_fn (k := 17) g.g_law_unknown g.glocate_2 he (by decide +kernel)
  generalize callN Γ 19 = F at *
  simp [u1, u2, tru]
/-! the other case -/
theorem low_l : ∀ c : Nat, c < 123 → 97 ≤ c → Txt.lower (cS [c]) = cS [c] := by decide +kernel
theorem upp_l : ∀ c : Nat, c < 123 → 97 ≤ c → Txt.upper (cS [c]) = cS [c - 32] := by decide +kernel
theorem low_u : ∀ c : Nat, c < 91 → 65 ≤ c → Txt.lower (cS [c]) = cS [c + 32] := by decide +kernel
def othc : List Nat → Str
  | [] => ""
  | c :: r => cS ((if 97 ≤ c then c - 32 else c + 32) :: r)
theorem oth_ev {F : Fns} {c : Nat} {r : List Nat} {ρ : Env} {T : Store} (hc : (65 ≤ c ∧ c < 91) ∨ (97 ≤ c ∧ c < 123)) (hr : r.length ≤ 5) (hv : ∀ T, evE F (.var 9) ρ T = .ok (.str (cS (c :: r))) T) : ∃ G, evE F xk10E ρ T = .ok (.str (othc (c :: r))) (T ++ G) := by
  have ix : ∀ T, evE F (.ix (.var 9) (.con (.int 0))) ρ T = .ok (.str (cS [c])) T := fun T => by
    rw [ev_ix, hv, bind_ok, ev_con, bind_ok, ix_cS (by rw [List.length_cons]; omega), ixAt_0]
    rfl
  have lo : ∀ T, evE F (.bm .lower (.ix (.var 9) (.con (.int 0))) (.nil)) ρ T = .ok (.str (Txt.lower (cS [c]))) T := fun T => by
    rw [ev_bm, ix, bind_ok]
    show (Out.ok [] T).bind (fun ds S2 => bmD .lower (.str (cS [c])) ds S2) = _
    show (if (cS [c]).length ≤ 5000000 then Out.ok (D.str (Txt.lower (cS [c]))) T else .bad) = _
    rw [if_pos (by rw [cS_len]; simp)]
  have up : ∀ T, evE F (.bm .upper (.ix (.var 9) (.con (.int 0))) (.nil)) ρ T = .ok (.str (Txt.upper (cS [c]))) T := fun T => by
    rw [ev_bm, ix, bind_ok]
    show (Out.ok [] T).bind (fun ds S2 => bmD .upper (.str (cS [c])) ds S2) = _
    show (if (cS [c]).length ≤ 5000000 then Out.ok (D.str (Txt.upper (cS [c]))) T else .bad) = _
    rw [if_pos (by rw [cS_len]; simp)]
  have sl : ∀ T, slD (.str (cS (c :: r))) (some 1) none T = .ok (.str (cS r)) T := fun T => slc_cS (i := 1) (by rw [List.length_cons]; omega)
  have bi : ∀ (b : Bool) S, bfD .int [.bl b] S = .ok (.int (if b = true then 1 else 0)) S := fun b S => by cases b <;> rfl
  have ll : evE F (.lst (.cons (.bm .lower (.ix (.var 9) (.con (.int 0))) (.nil)) (.cons (.bm .upper (.ix (.var 9) (.con (.int 0))) (.nil)) (.nil)))) ρ T = .ok (.loc T.length) (T ++ [Cell.lst [.str (Txt.lower (cS [c])), .str (Txt.upper (cS [c]))]]) := by
    rw [ev_lst, evs_cons, lo, bind_ok, evs_cons, up, bind_ok, evs_nil, bind_ok, bind_ok, bind_ok, if_pos (by rw [sizeLine_eq]; simp), newc]
  have gl : (T ++ [Cell.lst [.str (Txt.lower (cS [c])), .str (Txt.upper (cS [c]))]])[T.length]? = some (.lst [.str (Txt.lower (cS [c])), .str (Txt.upper (cS [c]))]) := by rw [get_app0]; rfl
  refine ⟨[Cell.lst [.str (Txt.lower (cS [c])), .str (Txt.upper (cS [c]))]], ?_⟩
  have lo1 := lo (T ++ [Cell.lst [.str (Txt.lower (cS [c])), .str (Txt.upper (cS [c]))]])
  have ix1 := ix (T ++ [Cell.lst [.str (Txt.lower (cS [c])), .str (Txt.upper (cS [c]))]])
  have hv1 := hv (T ++ [Cell.lst [.str (Txt.lower (cS [c])), .str (Txt.upper (cS [c]))]])
  have sl1 := sl (T ++ [Cell.lst [.str (Txt.lower (cS [c])), .str (Txt.upper (cS [c]))]])
  rcases hc with hc | hc
  · have e1 := low_u c (by omega) hc.1
    have ne : ¬ (cS [c + 32] = cS [c]) := fun z => by have := cS_inj z; simp at this
    have ad : ∀ V, opD .Add (.str (cS [c + 32])) (.str (cS r)) V = .ok (.str (othc (c :: r))) V := fun V => by
      rw [add_str' (by rw [cS_len, cS_len, List.length_singleton]; omega), cS_add]
      show _ = Out.ok (D.str (cS ((if 97 ≤ c then c - 32 else c + 32) :: r))) V
      rw [if_neg (by omega)]
      rfl
    generalize Txt.lower (cS [c]) = lw at *
    generalize Txt.upper (cS [c]) = uw at *
    subst e1
    have ad := ad (T ++ [Cell.lst [.str (cS [c + 32]), .str uw]])
    generalize T ++ [Cell.lst [.str (cS [c + 32]), .str uw]] = V at *
    rw [ev_bin, ev_ix, ll, bind_ok, ev_bf, evs_cons, ev_cmp, lo1, bind_ok, ix1, bind_ok, eq_str, decide_eq_false ne]
    simp [bi, gl, hv1, sl1, ad]
  · have e1 := low_l c (by omega) hc.1
    have e2 := upp_l c (by omega) hc.1
    have ad : ∀ V, opD .Add (.str (cS [c - 32])) (.str (cS r)) V = .ok (.str (othc (c :: r))) V := fun V => by
      rw [add_str' (by rw [cS_len, cS_len, List.length_singleton]; omega), cS_add]
      show _ = Out.ok (D.str (cS ((if 97 ≤ c then c - 32 else c + 32) :: r))) V
      rw [if_pos hc.1]
      rfl
    generalize Txt.lower (cS [c]) = lw at *
    generalize Txt.upper (cS [c]) = uw at *
    subst e1 e2
    have ad := ad (T ++ [Cell.lst [.str (cS [c]), .str (cS [c - 32])]])
    generalize T ++ [Cell.lst [.str (cS [c]), .str (cS [c - 32])]] = V at *
    rw [ev_bin, ev_ix, ll, bind_ok, ev_bf, evs_cons, ev_cmp, lo1, bind_ok, ix1, bind_ok, eq_str, decide_eq_true rfl]
    simp [bi, gl, hv1, sl1, ad]
theorem k10_ok (g : Gam3 Γ) {R C : Nat} (hf : FlOk R C fl) (hoth : ∀ l, cS l ∈ fl.flatten → othc l ∉ fl.flatten) :
    ∃ o9' o10' U', evS (callN Γ 19) xk10 (nEv3 d0 o2 s fl o5 o6 o7 o8 o9 o10 o11) U = .nx (nEv3 d0 o2 s fl o5 o6 o7 o8 o9' o10' o11) U' := by
  obtain ⟨r0, hr0⟩ : ∃ r, fl[0]? = some r := ⟨_, List.getElem?_eq_getElem (by rw [hf.len]; exact hf.r0)⟩
  have rm := List.mem_of_getElem? hr0
  have ei : evI (callN Γ 19) (.val (.ix (.var 4) (.con (.int 0)))) (nEv3 d0 o2 s fl o5 o6 o7 o8 o9 o10 o11) U = .ok (sd r0, .free) U := by
    have e : evE (callN Γ 19) (.ix (.var 4) (.con (.int 0))) (nEv3 d0 o2 s fl o5 o6 o7 o8 o9 o10 o11) U = .ok (.tup (sd r0)) U := by
      have g0 := fd_get hr0
      generalize callN Γ 19 = F at *
      simp [g0]
    rw [evi_val, e, bind_ok]
    rfl
  obtain ⟨ρ', S', e0, o9', o10', e1⟩ := loopF_all (src := .free) (f := fun x ρ S => (asgT (callN Γ 19) (.nm 9) x ρ S).bindS fun ρ' S' => evSs (callN Γ 19) (.cons xk10a (.cons xk10b (.nil))) ρ' S') (xs := sd r0) (ρ := nEv3 d0 o2 s fl o5 o6 o7 o8 o9 o10 o11) (S := U)
    (fun i ρ S' => ∃ o9 o10, ρ = nEv3 d0 o2 s fl o5 o6 o7 o8 o9 o10 o11) ⟨o9, o10, rfl⟩ (fun i y ρ S' ⟨o9, o10, e1⟩ hi => by
      subst e1
      obtain ⟨x, hx, rfl⟩ := sd_get' hi
      have xm : x ∈ fl.flatten := List.mem_flatten.mpr ⟨r0, rm, List.mem_of_getElem? hx⟩
      obtain ⟨c, r, rfl, hc, hr, _⟩ := (hf.nm x xm).ex
      have ho := hoth _ xm
      have hl : (othc (c :: r)).length ≤ 5000 := by
        show (cS _).length ≤ 5000
        rw [cS_len, List.length_cons]
        omega
      have q0 : asgT (callN Γ 19) (.nm 9) (.str (cS (c :: r))) (nEv3 d0 o2 s fl o5 o6 o7 o8 o9 o10 o11) S' = .ok (nEv3 d0 o2 s fl o5 o6 o7 o8 (some (.str (cS (c :: r)))) o10 o11) S' := rfl
      obtain ⟨G, ev⟩ := oth_ev (F := callN Γ 19) (ρ := nEv3 d0 o2 s fl o5 o6 o7 o8 (some (.str (cS (c :: r)))) o10 o11) (T := S') hc hr (fun _ => rfl)
      have va : evS (callN Γ 19) xk10a (nEv3 d0 o2 s fl o5 o6 o7 o8 (some (.str (cS (c :: r)))) o10 o11) S' = .nx (nEv3 d0 o2 s fl o5 o6 o7 o8 (some (.str (cS (c :: r)))) (some (.str (othc (c :: r)))) o11) (S' ++ G) := by
        rw [xk10a, st_asg', ev]
        rfl
      have un : callN Γ 19 i__law_unknown [.tup (fd fl), .str (othc (c :: r))] (S' ++ G) = .ok (.str (othc (c :: r))) (S' ++ G) := unk_fn (k := 17) g.g_law_unknown g.glocate_2 ho hl
      have vb : evS (callN Γ 19) xk10b (nEv3 d0 o2 s fl o5 o6 o7 o8 (some (.str (cS (c :: r)))) (some (.str (othc (c :: r)))) o11) (S' ++ G) = .nx (nEv3 d0 o2 s fl o5 o6 o7 o8 (some (.str (cS (c :: r)))) (some (.str (othc (c :: r)))) o11) (S' ++ G) := by
        generalize othc (c :: r) = z at *
        generalize S' ++ G = V at *
        generalize callN Γ 19 = F at *
        simp [un, tru]
      refine ⟨rfl, nEv3 d0 o2 s fl o5 o6 o7 o8 (some (.str (cS (c :: r)))) (some (.str (othc (c :: r)))) o11, S' ++ G, .inl ?_, _, _, rfl⟩
      rw [q0, bindS_ok, evss_nx va, evss_nx vb]
      rfl) (fun _ _ _ => rfl)
  subst e1
  refine ⟨o9', o10', S', ?_⟩
  rw [xk10, st_for', ei]
  exact e0
end
end Iv

set_option maxRecDepth 100000
namespace Iv
open PySem
/-! ### no floor has zzzzzz -/
theorem nmC_nz {st sh n c : Nat} {r : List Nat} (h : nmC st sh n = c :: r) : r ≠ [122, 122, 122, 122, 122] := by
  intro e
  subst e
  have hl := congrArg List.length h
  have m3 := Nat.mod_lt n (show 0 < 3 by omega)
  unfold nmC at h hl
  split at h
  · simp only [List.length_cons, List.length_replicate, List.length_nil] at hl
    split at hl <;> omega
  · simp only [List.length_cons, List.length_nil] at hl
    omega
  · simp only [List.length_cons, List.length_nil] at hl
    omega
  · simp only [List.length_cons, List.length_nil] at hl
    omega
  · simp only [List.length_cons, List.length_replicate, List.length_nil] at hl
    omega
  · have := congrArg (fun l : List Nat => l[2]?) h
    simp at this
theorem zz_eq : ("zzzzzz" : Str) = cS [122, 122, 122, 122, 122, 122] := by decide +kernel
theorem itm_nz {st sh : Nat} {p : Bool × Nat} {c : Nat} {r : List Nat} (h : itm st sh p = cS (c :: r)) : r ≠ [122, 122, 122, 122, 122] := by
  have h := cS_inj h
  unfold item at h
  split at h
  · cases h
  · rename_i c2 r2 e
    obtain ⟨_, h2⟩ := List.cons.inj h
    rw [← h2]
    exact nmC_nz e
theorem twin_nz {R C st sh : Nat} {us : List (Bool × Nat)} {fl fl' : List (List Str)} (h : FlN R C st sh us fl) (t : TwinOf fl fl') : ("zzzzzz" : Str) ∉ fl'.flatten := by
  rw [zz_eq]
  have key : ∀ {c : Nat} {r : List Nat}, cS (c :: r) ∈ fl.flatten → r ≠ [122, 122, 122, 122, 122] := fun {c r} m => by
    rw [h.flat] at m
    obtain ⟨p, _, e⟩ := List.mem_map.mp m
    exact itm_nz e
  intro m
  cases t with
  | same => exact key m rfl
  | twin c r o hc hl ho hu =>
    rw [twin_flat] at m
    obtain ⟨y, hy, e⟩ := List.mem_map.mp m
    by_cases z : y = o
    · rw [if_pos z] at e
      obtain ⟨_, e2⟩ := List.cons.inj (cS_inj e)
      exact key hl e2
    · rw [if_neg z] at e
      rw [e] at hy
      exact key hy rfl
end Iv

set_option maxRecDepth 100000
namespace Iv
open PySem
theorem oth_not {R C st sh : Nat} {us : List (Bool × Nat)} {fl : List (List Str)} (h : FlN R C st sh us fl) (hR : R < 13) (hC : C < 13) : ∀ l, cS l ∈ fl.flatten → othc l ∉ fl.flatten := fun l hl ho => by
  rw [h.flat] at hl ho
  obtain ⟨p, hp, e1⟩ := List.mem_map.mp hl
  obtain ⟨q, hq, e2⟩ := List.mem_map.mp ho
  obtain ⟨c, r, z1, k1, _⟩ := nmC_ok st sh p.2
  obtain ⟨d, t, z2, k2, _⟩ := nmC_ok st sh q.2
  have e1 := cS_inj e1
  unfold item at e1
  rw [z1] at e1
  rw [← e1] at e2
  have e2 : cS (item st sh q) = cS ((if 97 ≤ (if p.1 = true then c - 32 else c) then (if p.1 = true then c - 32 else c) - 32 else (if p.1 = true then c - 32 else c) + 32) :: r) := e2
  have e2 := cS_inj e2
  unfold item at e2
  rw [z2] at e2
  obtain ⟨e3, e4⟩ := List.cons.inj e2
  have pq : p.1 ≠ q.1 ∧ d = c := by
    revert e3
    cases p.1 <;> cases q.1 <;> simp only [if_true, Bool.false_eq_true, if_false]
    · split <;> (intro e3; omega)
    · intro e3
      exact ⟨by simp, by split at e3 <;> omega⟩
    · intro e3
      exact ⟨by simp, by split at e3 <;> omega⟩
    · split <;> (intro e3; omega)
  have := flN_inj h hR hC p hp q hq (by rw [z1, z2, pq.2, e4])
  exact pq.1 (by rw [this])
section
variable {Γ : Nat → Option FDef} {R C : Nat} {fl : List (List Str)} {d0 : D} {o2 o5 o6 o7 o8 o9 o10 o11 : Option D} {s m : Nat} {c : Cell} {W : Store}
theorem kcell (g : Gam3 Γ) (hf : FlOk R C fl) (hz : ("zzzzzz" : Str) ∉ fl.flatten) (hoth : ∀ l, cS l ∈ fl.flatten → othc l ∉ fl.flatten) (hs : W[s]? = some c) (hc : SrcC c m) (hm : m < 10 ^ 9) :
    ∃ p5 p6 p7 p8 p9 p10 W', evSs (callN Γ 19) (.cons xk3 (.cons xk4 (.cons xk5 (.cons xk6 (.cons xk7 (.cons xk8 (.cons xk9 (.cons xk10 .nil)))))))) (nEv3 d0 o2 s fl o5 o6 o7 o8 o9 o10 o11) W = .nx (nEv3 d0 o2 s fl p5 p6 p7 p8 p9 p10 o11) W' := by
  have he : ("" : Str) ∉ fl.flatten := fun z => by
    obtain ⟨c, r, e, _⟩ := (hf.nm _ z).ex
    have : ("" : Str).length = (cS (c :: r)).length := by rw [e]
    rw [cS_len, List.length_cons] at this
    cases this
  have hne : fl ≠ [] := fun e => by
    have := hf.len
    rw [e] at this
    have := hf.r0
    simp at *
    omega
  obtain ⟨on, c1, ho, hc1, s1, e3⟩ := k3_ok g hs hc (by omega) hf.gf hne (d0 := d0) (o2 := o2) (o5 := o5) (o6 := o6) (o7 := o7) (o8 := o8) (o9 := o9) (o10 := o10) (o11 := o11)
  rw [evss_nx e3]
  generalize W.set s c1 = U at *
  have ol : on.length < 100 := by have := ho.len; omega
  rw [evss_nx (k4_ok ol)]
  have s2 := get_old (T := [Cell.lst (tfs [fl, on, [], [[]], [[], ["a"]], on ++ [[]]])]) s1
  have n2 : (U ++ [Cell.lst (tfs [fl, on, [], [[]], [[], ["a"]], on ++ [[]]])])[U.length]? = some (.lst (tfs [fl, on, [], [[]], [[], ["a"]], on ++ [[]]])) := by rw [get_app0]; rfl
  have gr0 : ∀ B, GR B [] := fun B => ⟨Nat.zero_le _, by simp⟩
  have gf0 : GF 0 [] := ⟨Nat.le_refl _, by simp, by simp⟩
  have gf1 : GF 1 [[]] := gf_cons gf0 (gr0 _)
  have gfa : GF 1 [["a"]] := gf_cons gf0 ⟨by simp, fun x hx => by rw [List.mem_singleton.mp hx]; exact a_tx⟩
  have hg : ∀ x ∈ ([fl, on, [], [[]], [[], ["a"]], on ++ [[]]] : List (List (List Str))), GF 20 x := fun x hx => by
    simp only [List.mem_cons, List.not_mem_nil, or_false] at hx
    rcases hx with rfl | rfl | rfl | rfl | rfl | rfl
    · exact hf.gf.mono (by omega)
    · exact ho.mono (by omega)
    · exact gf0.mono (by omega)
    · exact gf1.mono (by omega)
    · exact (gf_cons gfa (gr0 _)).mono (by omega)
    · exact (gf_snoc ho (gr0 _)).mono (by omega)
  generalize U ++ [Cell.lst (tfs [fl, on, [], [[]], [[], ["a"]], on ++ [[]]])] = U2 at *
  generalize U.length = n at *
  obtain ⟨gs, c2, U3, hg3, gl, hc2, s3, n3, e5⟩ := k5_ok g s2 hc1 (by omega) ho n2 hg (by simp) (fl := fl) (d0 := d0) (o2 := o2) (o7 := o7) (o8 := o8) (o9 := o9) (o10 := o10) (o11 := o11)
  rw [evss_nx e5]
  obtain ⟨q, U4, q15, n4, e6⟩ := k6_ok g s3 hc2 (by omega) n3 (fl := fl) (d0 := d0) (o2 := o2) (o5 := some (.tup (fd on))) (o6 := some (.loc n)) (o7 := o7) (o8 := o8) (o9 := o9) (o10 := o10) (o11 := o11)
  rw [evss_nx e6]
  have wl := wide_len q
  have wt := wide_tx (n := q) (by omega)
  generalize wideL q = wd at *
  obtain ⟨n', U5, n5, e7⟩ := k7_ok (wd := wd) (by omega) (by have := hf.len; have := hf.r1; omega) n4 (by omega) (Γ := Γ) (fl := fl) (d0 := d0) (o2 := o2) (o5 := some (.tup (fd on))) (o8 := o8) (o9 := o9) (o10 := o10) (o11 := o11)
  rw [evss_nx e7]
  have gw : ∀ B, 15 ≤ B → GR B wd := fun B h => ⟨by omega, wt⟩
  have hg5 : ∀ x ∈ gs ++ ([[wd], wd.map fun x => [x], [wd, wd], ["z"] :: fl] : List (List (List Str))), GF 20 x := fun x hx => by
    rcases List.mem_append.mp hx with hx | hx
    · exact hg3 x hx
    · simp only [List.mem_cons, List.not_mem_nil, or_false] at hx
      rcases hx with rfl | rfl | rfl | rfl
      · exact .of (by simp) fun r hr => by rw [List.mem_singleton.mp hr]; exact gw 20 (by omega)
      · refine .of (by rw [List.length_map]; omega) fun r hr => ?_
        obtain ⟨y, hy, rfl⟩ := List.mem_map.mp hr
        exact ⟨by simp, fun z hz => by rw [List.mem_singleton.mp hz]; exact wt y hy⟩
      · refine .of (by simp) fun r hr => ?_
        have : r = wd := by simpa using hr
        rw [this]
        exact gw 20 (by omega)
      · exact (gf_cons (hf.gf.mono (B' := 19) (by omega)) ⟨by simp, fun x hx => by rw [List.mem_singleton.mp hx]; exact z_tx⟩)
  obtain ⟨o8', e8⟩ := k8_ok g n5 hg5 (fl := fl) (d0 := d0) (o2 := o2) (o5 := some (.tup (fd on))) (o7 := some (.tup (sd wd))) (o8 := o8) (o9 := o9) (o10 := o10) (o11 := o11) (s := s)
  rw [evss_nx e8, evss_nx (k9_ok g hz he)]
  obtain ⟨o9', o10', U6, e10⟩ := k10_ok g hf hoth (d0 := d0) (o2 := o2) (o5 := some (.tup (fd on))) (o6 := some (.loc n')) (o7 := some (.tup (sd wd))) (o8 := o8') (o9 := o9) (o10 := o10) (o11 := o11) (s := s) (U := U5)
  rw [evss_nx e10]
  exact ⟨_, _, _, _, _, _, _, rfl⟩
end
abbrev xkm : ISs := (.cons xk1 (.cons xk2 (.cons xk3 (.cons xk4 (.cons xk5 (.cons xk6 (.cons xk7 (.cons xk8 (.cons xk9 (.cons xk10 .nil))))))))))
abbrev xlm1 : IS := .for_ (.nm 2) (.range (.cons (.bf .max2 (.cons (.con (.int 1)) (.cons (.bf .min2 (.cons (.con (.int 4)) (.cons (.bf .len (.cons (.var 0) (.nil))) (.nil)))) (.nil)))) (.nil))) xkm
section
variable {Γ : Nat → Option FDef}
theorem law3_ok (g : Gam3 Γ) (ns : List Int) (hl : ns.length ≤ 63) : ∃ S, callN Γ 20 i_law_37 [.rol (ns.map D.int)] [] = .ok (.bl true) S := by
  rw [callN_eq g.glaw_37 rfl]
  obtain ⟨m, hm, ei⟩ : ∃ m : Nat, m ≤ 4 ∧ evI (callN Γ 19) (.range (.cons (.bf .max2 (.cons (.con (.int 1)) (.cons (.bf .min2 (.cons (.con (.int 4)) (.cons (.bf .len (.cons (.var 0) (.nil))) (.nil)))) (.nil)))) (.nil))) [some (.rol (ns.map D.int)), some (.str "abcdefghijklmnopqrstuvwxyz"), none, none, none, none, none, none, none, none, none, none] [] = .ok (rangeL 0 m, .free) [] := by
    have e1 : bfD .len [.rol (ns.map D.int)] [] = .ok (.int (ns.length : Nat)) [] := by
      show ok? ((lenD [] (.rol (ns.map D.int))).map fun n : Nat => D.int n) [] = _
      show ok? ((some (ns.map D.int).length).map fun n : Nat => D.int n) [] = _
      rw [List.length_map]
      rfl
    have e2 : bfD .min2 [.int 4, .int (ns.length : Nat)] [] = .ok (.int (min 4 ns.length : Nat)) [] := by
      rw [bf_min]
      congr 2
      split <;> omega
    have e3 : bfD .max2 [.int 1, .int (min 4 ns.length : Nat)] [] = .ok (.int (max 1 (min 4 ns.length) : Nat)) [] := by
      rw [bf_max]
      congr 2
      split <;> omega
    refine ⟨max 1 (min 4 ns.length), by omega, ?_⟩
    have hmm : max 1 (min 4 ns.length) < 10 ^ 9 := by omega
    have er := range_n hmm
    generalize max 1 (min 4 ns.length) = m at *
    simp only [evi_range, evs_cons, evs_nil, ev_bf, ev_con, ev_var]
    simp [-bf_min, -bf_max, e1, e2, e3, er]
  have key := loopF_all (src := .free) (f := fun x ρ S => (asgT (callN Γ 19) (.nm 2) x ρ S).bindS (fun ρ' S' => evSs (callN Γ 19) xkm ρ' S')) (xs := rangeL 0 m) (ρ := [some (.rol (ns.map D.int)), some (.str "abcdefghijklmnopqrstuvwxyz"), none, none, none, none, none, none, none, none, none, none]) (S := [])
    (fun i ρ S' => ∃ o2 o3 o4 o5 o6 o7 o8 o9 o10 o11, ρ = [some (.rol (ns.map D.int)), some (.str "abcdefghijklmnopqrstuvwxyz"), o2, o3, o4, o5, o6, o7, o8, o9, o10, o11]) ⟨none, none, none, none, none, none, none, none, none, none, rfl⟩ (fun i x ρ S' ⟨o2, o3, o4, o5, o6, o7, o8, o9, o10, o11, e1⟩ hi => ?_) (fun _ _ _ => rfl)
  · obtain ⟨ρ', S', e0, o2, o3, o4, o5, o6, o7, o8, o9, o10, o11, e1⟩ := key
    subst e1
    have e5 : evS (callN Γ 19) xlm1 [some (.rol (ns.map D.int)), some (.str "abcdefghijklmnopqrstuvwxyz"), none, none, none, none, none, none, none, none, none, none] [] = .nx [some (.rol (ns.map D.int)), some (.str "abcdefghijklmnopqrstuvwxyz"), o2, o3, o4, o5, o6, o7, o8, o9, o10, o11] S' := by
      rw [xlm1, st_for', ei]
      exact e0
    refine ⟨[], ?_⟩
    have e4 : evS (callN Γ 19) (.asg (.nm 1) (.con (.str "abcdefghijklmnopqrstuvwxyz"))) [some (.rol (ns.map D.int)), none, none, none, none, none, none, none, none, none, none, none] [] = .nx [some (.rol (ns.map D.int)), some (.str "abcdefghijklmnopqrstuvwxyz"), none, none, none, none, none, none, none, none, none, none] [] := rfl
    show gcO [] (bodyO (evSs (callN Γ 19) (.cons (.asg (.nm 1) (.con (.str "abcdefghijklmnopqrstuvwxyz"))) (.cons xlm1 (.cons (.ret (.some (.con (.bl true)))) .nil))) [some (.rol (ns.map D.int)), none, none, none, none, none, none, none, none, none, none, none] [])) = _
    rw [evss_nx e4]
    rw [evss_nx e5]
    have gd := gc_drop (S := []) (T := S') (d := .bl true) rfl
    rw [List.nil_append] at gd
    simp [gd]
  · subst e1
    obtain ⟨rfl, hi2⟩ := rangeL_get hi
    rw [Int.zero_add]
    obtain ⟨a, b, b0, b1, q1⟩ := src_ok (k := 18) g.g_law_source ns i (by omega) S'
    have hs : (S' ++ [Cell.lst [.int a, .int b, .int 0]])[S'.length]? = some (.lst [.int a, .int b, .int 0]) := by rw [get_app0]; rfl
    obtain ⟨R, C, st, sh, us, fl, c', R0, R1, C0, C1, _, w1, w2, hf, hc', q2⟩ := floor_ok (k := 14) (M := 144) g.g_law_floor g.g_law_named g.g_law_name g.g_law_pattern g.g_law_draw g.g_law_shuffled hs ⟨a, b, 0, rfl, b0, b1, Int.le_refl _, Int.le_refl _⟩ (m := 0) (by decide) (by decide) (by decide)
    have q2 : callN Γ 19 i__law_floor [.loc S'.length, .int 144] (S' ++ [Cell.lst [.int a, .int b, .int 0]]) = .ok (.tup (fd fl)) ((S' ++ [Cell.lst [.int a, .int b, .int 0]]).set S'.length c') := q2
    have ok := flN_ok hf R0 R1 C0 C1
    have hz := twin_nz hf .same
    have hsW : ((S' ++ [Cell.lst [.int a, .int b, .int 0]]).set S'.length c')[S'.length]? = some c' := List.getElem?_set_self (by simp)
    generalize (S' ++ [Cell.lst [.int a, .int b, .int 0]]).set S'.length c' = W at *
    obtain ⟨p5, p6, p7, p8, p9, p10, W', ea⟩ := kcell g ok hz (oth_not hf R1 C1) (d0 := .rol (ns.map D.int)) (o2 := some (.int i)) (o5 := o5) (o6 := o6) (o7 := o7) (o8 := o8) (o9 := o9) (o10 := o10) (o11 := o11) hsW hc' (by decide)
    refine ⟨rfl, _, W', .inl ?_, some (.int i), some (.loc S'.length), some (.tup (fd fl)), p5, p6, p7, p8, p9, p10, o11, rfl⟩
    have q0 : asgT (callN Γ 19) (.nm 2) (.int i) [some (.rol (ns.map D.int)), some (.str "abcdefghijklmnopqrstuvwxyz"), o2, o3, o4, o5, o6, o7, o8, o9, o10, o11] S' = .ok [some (.rol (ns.map D.int)), some (.str "abcdefghijklmnopqrstuvwxyz"), some (.int i), o3, o4, o5, o6, o7, o8, o9, o10, o11] S' := rfl
    have t1 : evS (callN Γ 19) xk1 [some (.rol (ns.map D.int)), some (.str "abcdefghijklmnopqrstuvwxyz"), some (.int i), o3, o4, o5, o6, o7, o8, o9, o10, o11] S' = .nx [some (.rol (ns.map D.int)), some (.str "abcdefghijklmnopqrstuvwxyz"), some (.int i), some (.loc S'.length), o4, o5, o6, o7, o8, o9, o10, o11] (S' ++ [Cell.lst [.int a, .int b, .int 0]]) := by
      generalize S' ++ [Cell.lst [.int a, .int b, .int 0]] = V at *
      generalize callN Γ 19 = F at *
      simp [q1]
    have t2 : evS (callN Γ 19) xk2 [some (.rol (ns.map D.int)), some (.str "abcdefghijklmnopqrstuvwxyz"), some (.int i), some (.loc S'.length), o4, o5, o6, o7, o8, o9, o10, o11] (S' ++ [Cell.lst [.int a, .int b, .int 0]]) = .nx [some (.rol (ns.map D.int)), some (.str "abcdefghijklmnopqrstuvwxyz"), some (.int i), some (.loc S'.length), some (.tup (fd fl)), o5, o6, o7, o8, o9, o10, o11] W := by
      generalize S' ++ [Cell.lst [.int a, .int b, .int 0]] = V at *
      generalize callN Γ 19 = F at *
      simp [q2]
    rw [q0, bindS_ok, evss_nx t1, evss_nx t2, ea]
end
end Iv

set_option maxRecDepth 100000
set_option maxHeartbeats 0
namespace Iv
open PySem PySem.Spec PyProof.Rows L2
def top (i : Nat) : Stmt := PySem.Challenge.pw_crossfloor_k03_invalid_floors.main.body.getD i (.Pass ⟨0, 0, 0, 0⟩)
def lst : List De := [
  ⟨i_is_name, "is_name", top 11, ["text"], ["text", "letter"], f_is_name, none⟩,
  ⟨i_check_floor_2, "check_floor", top 12, ["floor"], ["floor", "width", "seen", "row", "cells", "column", "outside"], f_check_floor_2, none⟩,
  ⟨i_locate_2, "locate", top 13, ["floor", "name"], ["floor", "name", "row", "cells"], f_locate_2, none⟩,
  ⟨i__law_source, "_law_source", top 15, ["script", "index"], ["script", "index", "cell"], f__law_source, none⟩,
  ⟨i__law_draw, "_law_draw", top 16, ["source", "bound"], ["source", "bound", "digit", "mixed"], f__law_draw, none⟩,
  ⟨i__law_shuffled, "_law_shuffled", top 17, ["source", "things"], ["source", "things", "left", "step"], f__law_shuffled, none⟩,
  ⟨i__law_name, "_law_name", top 18, ["style", "shift", "number"], ["style", "shift", "number", "letters", "first", "second", "names"], f__law_name, none⟩,
  ⟨i__law_pattern, "_law_pattern", top 19, ["source", "rows", "columns"], ["source", "rows", "columns", "way", "cells", "row", "lines", "others", "many", "line", "column", "index", "cell"], f__law_pattern, none⟩,
  ⟨i__law_named, "_law_named", top 20, ["source", "rows", "columns"], ["source", "rows", "columns", "pattern", "style", "shift", "numbers", "floor", "row", "cells", "column", "name"], f__law_named, none⟩,
  ⟨i__law_floor, "_law_floor", top 21, ["source", "most"], ["source", "most", "rows", "columns"], f__law_floor, none⟩,
  ⟨i__law_is_name, "_law_is_name", top 22, ["text"], ["text", "lower", "letter"], f__law_is_name, none⟩,
  ⟨i__law_wrong_2, "_law_wrong", top 23, ["floor"], ["floor", "seen", "row", "column"], f__law_wrong_2, none⟩,
  ⟨i__law_changed_2, "_law_changed", top 24, ["source", "floor"], ["source", "floor", "rows", "row", "way", "odd", "other", "cells"], f__law_changed_2, none⟩,
  ⟨i__law_right, "_law_right", top 25, ["floor"], ["floor", "due", "found", "e"], f__law_right, none⟩,
  ⟨i__law_unknown, "_law_unknown", top 26, ["floor", "name"], ["floor", "name", "found", "e"], f__law_unknown, none⟩,
  ⟨i_law_37, "law", top 27, ["script"], ["script", "letters", "index", "source", "floor", "once", "cases", "wide", "case", "name", "other", "number"], f_law_37, none⟩]
def cs : List (Str × D) := [("MOST_LINES", (.int 12)), ("MOST_LETTERS", (.int 6)), ("UPPER", (.str "ABCDEFGHIJKLMNOPQRSTUVWXYZ")), ("LOWER", (.str "abcdefghijklmnopqrstuvwxyz"))]
def xs : List Xe := [
  ⟨0, "CrossError", .Pass default, none, []⟩,
  ⟨1, "BadFloor", initSt (top 2), some ["row", "column"], ["self", "row", "column"]⟩,
  ⟨2, "UnknownItem", initSt (top 3), some ["name"], ["self", "name"]⟩,
  ⟨8, "BadScript", .Pass default, none, []⟩,
  ⟨9, "UnknownKey", .Pass default, none, []⟩]

theorem chk_ok : chkAll lst cs xs = true := by decide +kernel
theorem uq : uniq lst = true := by decide +kernel
def lawDe : De := ⟨i_law_37, "law", top 27, ["script"], ["script", "letters", "index", "source", "floor", "once", "cases", "wide", "case", "name", "other", "number"], f_law_37, none⟩
theorem law_mem : lawDe ∈ lst := by simp [lst, lawDe]
theorem law_find : (lst.find? fun e' => decide (e'.id = lawDe.id)) = some lawDe := by rfl
theorem sem (ns : List Int) (hl : ns.length ≤ 63) (hb : ∀ i ∈ ns, Builtin.Int.intBits i ≤ 1048576) : ∃ S, callN (ΓOf lst) 20 lawDe.id [.rol (ns.map D.int)] [] = .ok (.bl true) S := law3_ok ⟨rfl, rfl, rfl, rfl, rfl, rfl, rfl, rfl, rfl, rfl, rfl, rfl, rfl, rfl, rfl, rfl⟩ ns hl


/-! ### the head -/
abbrev R0 : PySem.W.OpenRow := PySem.W.OpenLaw.row PySem.Challenge.rw_crossfloor_k03_invalid_floors
abbrev hk0 : PySem.W.Hook := hookX 4 (faOf lst cs xs) (fnOf lst xs) xs
def ob0 (s : PySem.W.SharedT) : He.AlD := obsXG 4 (faOf lst cs xs) (fnOf lst xs) xs (HandSHeadRun.getT s)
theorem ob0_eq (s : PySem.W.SharedT) : ob0 s = hk0.obs s.abs := obsXG_eq (HandSHeadRun.getT_eq s)
def loose0 : List PySem.Str := [PySem.Str.ofString "CrossError", PySem.Str.ofString "BadFloor", PySem.Str.ofString "UnknownItem", PySem.Str.ofString "BadScript", PySem.Str.ofString "UnknownKey", PySem.Str.ofString "MOST_LINES", PySem.Str.ofString "MOST_LETTERS", PySem.Str.ofString "UPPER", PySem.Str.ofString "LOWER", PySem.Str.ofString "is_name", PySem.Str.ofString "check_floor", PySem.Str.ofString "locate", PySem.Str.ofString "_law_source", PySem.Str.ofString "_law_draw", PySem.Str.ofString "_law_shuffled", PySem.Str.ofString "_law_name", PySem.Str.ofString "_law_pattern", PySem.Str.ofString "_law_named", PySem.Str.ofString "_law_floor", PySem.Str.ofString "_law_is_name", PySem.Str.ofString "_law_wrong", PySem.Str.ofString "_law_changed", PySem.Str.ofString "_law_right", PySem.Str.ofString "_law_unknown"]
theorem run0 (w : World) : HandSHeadRun.RunEq R0 (PySem.W.view R0.prog [27]) hk0 ob0 20000 (loose0) w := by
  intro os
  kernel_rfl
end Iv
open PySem PySem.W PySem.Calls PyProof.Rows
theorem PySem.Challenge.cw_crossfloor_k03_invalid_floors_holds : PySem.Challenge.rw_crossfloor_k03_invalid_floors.Holds := by
  w_on; o_law
  refine HandSHeadRun.head_any (r := OpenLaw.row PySem.Challenge.rw_crossfloor_k03_invalid_floors) (q := view (OpenLaw.row PySem.Challenge.rw_crossfloor_k03_invalid_floors).prog [27]) (H := Iv.hk0) (ob := Iv.ob0) (M := 20000) (loose := Iv.loose0) (d := HandSHeadRun.topDef (OpenLaw.row PySem.Challenge.rw_crossfloor_k03_invalid_floors).prog 27) (kwd := []) Iv.ob0_eq
    (by kernel_rfl) (fun s => by kernel_rfl) Iv.run0 (by kernel_rfl) (by kernel_rfl) (by kernel_rfl) (by rfl) (by first | assumption | decide +kernel) (by decide +kernel) ⟨rfl, rfl, rfl, rfl, rfl, by decide +kernel⟩ ?hw ?hc
  case hw => w_witness2
  case hc => exact Iv.walk_of (l := Iv.lst) (cs := Iv.cs) (xs := Iv.xs) (k := 20) (n := 63) (e := Iv.lawDe) rfl (by decide) (by kernel_rfl) ⟨rfl, by decide, by decide⟩ (by kernel_rfl) Iv.uq Iv.chk_ok Iv.law_mem ⟨_, rfl, rfl⟩ Iv.law_find Iv.sem



